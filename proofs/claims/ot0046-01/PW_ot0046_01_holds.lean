import PyProof.Rows.All
import Wide.All
import OpenK.KSplit
import OpenK.KNot
import OpenK.KApp
import Wide.FinOn
import KE.KDictSum
import KE.KPar
import KE.KDictOf
import KE.KBoundM
import KE.KTryMore
import KE.LcTurns
import KE.KEqDict
import KE.KTurns
import KE.KLam
import KE.KItem
import KE.KRevIter
import KE.KGrown
import KE.KDictList
import PyProof.AttrMissHeap
import PyProof.ExcBaseAll.Exception
import PyProof.InstStore
import PyProof.Rows.TupMore
import PySem.Challenge.RW_ot0046_01
set_option backward.match.sparseCases false
set_option genSizeOf false
set_option genInjectivity false
set_option linter.unusedVariables false
set_option Elab.async false
set_option maxRecDepth 1000000
set_option maxHeartbeats 8000000
open PySem PySem.W PySem.Calls PyProof.Rows
open _root_.Bool renaming and_eq_true_iff→aei,casesOn→aen,rec→aex,not_eq_true'→aeT,false_ne_true→aeY,and_eq_true→afd,or_eq_true→afT,false_eq_true→ahv,false_or→ajU
open _root_.Option.some renaming inj→aej
open _root_.PySem renaming wpAny_bind→aek,Value→ael,Shared→aep,wpAny_pure→aey,Addr→aez,Expr→aeM,wpAny→aeO,model→aeR,plain→ae1,Around→ae6,Program→ae9,mainGlobals→afa,strKind→afb,wpAny_field→afc,rawInt→aff,call→afl,Heap→afm,World→afq,PyData→afs,NameKind→afv,OsState→afw,Scope→afC,Stmt→afD,behindInMarks→afH,IsPair→afL,wpAny_mono→afN,cellsFrom→afO,wpAny_newObj_type→afQ,wpAny_callSpecial?_slot→afR,wpAny_call_entry→afU,wpAny_truthy_bool→afW,wpAny_holding→afX,sysModules→af1,wpAny_loadPart_at→agb,builtinLookup_eq_fast→age,wpAny_pyIter_tuple→agj,codeAny→agk,wpAny_seqItems→agm,wpAny_execs_cons→agx,wpAny_isSubtype_exc→agK,bindArgs→agL,starEach→agN,builtinsNs→agP,assignEach→agQ,wpAny_call→agR,cameBackBy→agS,wpAny_of_eq→agT,wpAny_setField_rec→agW,letOwnedTupleGo→agY,IsZip→agZ,relabel→ag0,typeLookup_type→ag1,swappedStores→ag4,strKind_is→ag7,excClassObj→ahb,wpAny_setField→ahc,plainObj_wpAny_Assign_Attribute→ahk,execs→aho,wpAny_execs_nil→ahq,wpAny_rule→ahs,wpAny_isTrue_Compare1→ahz,wpAny_storeName_local→ahA,codeAmong→ahE,compareOp→ahF,FuncData→ahG,Draws→ahK,compEnvC→ahL,typeLookup→ahM,checkBuiltinCall→ahN,wpAny_standAt→ahO,wpAny_attempt→ahS,wpAny_specialOf→ahZ,backTo→ah2,bootBuiltins→ah4,evalPart_none_step→ah5,valueAt→aie,call_meets→aif,assign→aio,Result→aip,pyNext→aiq,wpAny_Assign_Subscript→air,wpAny_isInstance→ait,swapsWith→aiw,notedBy→aix,wpAny_loadName_local→aiA,pyIter→aiC,wpAny_typeOf→aiD,wpAny_loadPart'→aiH,codeAny_builtin→aiK,wpAny_Expr_any→aiY,firstArgMember→ai2,TriplesOk→ai7,seqIndex?→ai9,treeTable→ajf,strKind→ajh,wpAny_onRaise→aji,wpAny_pyIter_list→ajk,wpAny_assign_Name→ajn,wpAny_Name→ajo,wpAny_load→ajp,closureFor→ajq,entryFor_of_tree→ajC,wpAny_pyIter_zip→ajD
open _root_.Nat renaming eq_of_beq_eq_true→aem,le_of_ble_eq_true→aer,lt_of_lt_of_le→aet,beq→aew,le_refl→aeD,le_trans→aeE,casesAuxOn→aeI,ne_of_lt→aeN,ble→aeZ,le_add_right→ae0,lt_succ_of_lt→afg,zero_le→afj,succ→afk,not_lt→aft,blt→afu,lt_irrefl→afG,beq_refl→afI,rec→af6,le_succ→af7,succ_le_succ→agf,lt_of_le_of_lt→agg,le_of_eq→agh,pred→ago,lt_trans→agt,ne_of_gt→agu,lt_succ_self→agy,le_add_left→agC,add_sub_cancel_left→agH,add_le_add_left→agJ,le_of_lt→agV,le_succ_of_le→ag6,add_le_add_right→ag8,succ_add→ahe,succ_ne_self→ahg,zero_add→ahh,lt_succ_of_le→ahw,ble_eq_true_of_le→ahx,add→ahT,le_of_lt_succ→ail,ne_of_beq_eq_false→ain,casesOn→ais,not_lt_zero→aiP,add_sub_cancel'→aiS,lt_of_le_of_ne→ai8,succ_ne_zero→ajG,le_antisymm→ajK
open _root_.List renaming mem_append_left→aeo,mem_append_right→aeu,mem_singleton→aev,mem_cons→aeA,casesOn→aeC,mem_map_of_mem→aeF,all_eq_true→aeK,rec→aeL,mem_map→aeP,mem_append→aeQ,map_cons→aeU,mem_of_getElem?→aeV,getElem?_eq_getElem→aeW,map_append→aeX,nodup_cons→ae3,getElem?_eq_some_iff→ae4,nodup_append→ae7,pairwise_singleton→afe,size_toArray→afi,getElem?_toArray→afx,lookup_cons→afz,any_cons→afA,prefix_refl→afJ,append_assoc→afP,range→af2,getElem?_map→aga,length_eq_zero_iff→agn,reverse_cons→agp,append_nil→agD,mem_range→agO,length_append→agU,getElem?_append_right→ag3,cons_append→ahd,not_mem_nil→ahj,length_map→ahr,mem_iff_getElem?→ahC,mem_cons_of_mem→ahH,drop_length→ahJ,all_cons→ahR,lookup→ahU,length_reverse→ahV,getElem?_append_left→ahW,drop_eq_getElem_cons→ahX,mem_filter→ah0,prefix_append→ah3,pairwise_cons→ah7,mem_filterMap→aic,filter_cons_of_pos→aih,filter_cons_of_neg→aii,map_inj_left→aim,isEmpty_iff→aiv,contains_iff_mem→aiz,forIn_cons→aiI,filterMap_cons→aiV,drop_zero→ai0,sublist_append_right→ajr,toArray→aju,length_cons→ajz
open _root_.PySem.Heap renaming get?_push_of_some→aeq,get?_push_size→aeJ,lt_size→aeS,size_push→af9,dictOf_iff→agc,get?_update_self→agd,SameBut→aiE,get?_none_of_le→aiN,get?_update_ne→aiU,ExtBut→ai5
open _root_.Option renaming casesOn→aeB,rec→ae2,map_eq_some_iff→af8,isSome_iff_exists→ah9
open _root_.PySem.W renaming listOf→aeG,isStarred→aeH,tabObj→afn,onStr→afM,Frag→afV,dictOf→afY,findIn→ags,objE→agv,getL→agB,boot_heap→agX,instObj→ahy,handedIn→ah1,of_hideAll→aiM,hideAll_get→ai6,boot_drawn→ajt,plainGet→ajv,looks_findIn→ajx
open _root_.PySem.NameKind renaming globalImplicit→ae5,free→af5,cell→ahm
open _root_.Prod.mk renaming inj→ae8,injEq→ajj
open _root_.PySem.PyData renaming canLayAll0→afh,strOk→afp,eqv→afS,casesOn→afZ,eqvAll→agG,depthAll→ahp,canLay0→aid,depth→aiB,keyHash→aiW
open _root_.PySem.Value renaming casesOn→afo,ref→afr,none→agl,type→agF
open _root_.PySem.Builtin.SmallTypes renaming ownedTupleIsFree→afy,nextOf→afE,ownedTupleHandOut→ah8,stopIteration→aiu
open _root_.Int renaming ofNat→afB,casesOn→afF,lt_trans→aiL,ofNat_lt→aiQ,add_lt_add_right→aiR,toNat_natCast→ajl,add_nonneg→ajP
open _root_.PySem.Expr renaming casesOn→afK
open _root_.Nat.succ renaming inj→af0
open _root_.PySem.Code renaming builtin→af3,quiet_builtin→aib
open _root_.PySem.W.Looks renaming of_pure→af4
open _root_.PySem.Obj renaming data_mapFields→agi,isFreed_of_fields→ahB,mapFields→ahQ
open _root_.PyProof.Rows renaming args_cons→agq,slot_tuple_getitem→agA,News→agM,envOf→ag2,args_nil→ahf,subscriptTail→ahP,isStrOf→aiG,tail_any→aiZ,modules_low→ai4,slot_tuple_getitem→aja,assign_Name→ajw,add_int→ajQ,strKind→ajR,risingS→ajS,sortedS→ajT
open _root_.PySem.Heap.SameBut renaming update→agr
open _root_.Array renaming getElem?_eq_some_iff→agw,toArray_toList→aiF,length_toList→aiT,mk→ajH
open _root_.PySem.W.KTurns renaming ofWalks→agz
open _root_.PySem.Str renaming ofString→agE
open _root_.PySem.Heap.UpToSlots renaming of_keeps→agI
open _root_.PySem.F renaming slot_tuple_iterator_next→ag5,excBase_Exception→aha,slot_zip_next→aht,slot_zip_getattribute→aij,plainAttrs_list→aik,slot_dict_get→aiy,plain_reversed_new→aiJ,slot_int_rmul→aiO,args_tuple_iterator_next_1→ai1,slot_str_startswith→ajc,entry_tuple_iterator_next→ajd,args_zip_next_1→ajm,slot_list_extend→ajy,slot_tuple_count→ajA,entry_zip_next→ajB,slot_tuple_mul→ajE,entry_dict_get→ajM,plainAttrs_str→ajN,slot_str_join→ajO
open _root_.PySem.Builtin.Slice renaming slicePlaces→ag9,sliceAdjust→ahY,sliceApplied→ajg
open _root_.PySem.Builtin.Tuple renaming tupleExact→ahi
open _root_.Classical renaming propDecidable→ahl,byContradiction→ajs
open _root_.PyProof.Rows.LCg renaming NsObj→ahn
open _root_.ForInStep renaming yield→ahu
open _root_.PySem.Challenge renaming rw_ot0046_01→ahD,pw_ot0046_01→ai3
open _root_.PySem.Calls renaming Name_function_global→ahI
open _root_.PySem.Builtin.List renaming listTooLong→ah6
open _root_.PySem.Data renaming casesOn→aia
open _root_.PySem.W.InstAt renaming of_news→aiX
open _root_.PySem.Heap.IsSliceOf renaming new→ajb
open _root_.PySem.ScopeKind renaming function→aje
open _root_.PySem.Builtin.Dict renaming addKeywords→ajF,updateFrom→ajJ
open _root_.PySem.Builtin.Range renaming rangeSize→ajI
open _root_.PySem.Heap.DictOf renaming new→ajL
namespace Eng
noncomputable section
section
universe u1 u2 u3 u4 u5 u6 u7 u8 u9
variable{a0:Sort u1}{a1:∀ x0:a0,Sort u2}{a2:∀ x0:a0,∀ x1:a1 x0,Sort u3}{a3:∀ x0:a0,∀ x1:a1 x0,∀ x2:a2 x0 x1,Sort u4}{a4:∀ x0:a0,∀ x1:a1 x0,∀ x2:a2 x0 x1,∀ x3:a3 x0 x1 x2,Sort u5}{a5:∀ x0:a0,∀ x1:a1 x0,∀ x2:a2 x0 x1,∀ x3:a3 x0 x1 x2,∀ x4:a4 x0 x1 x2 x3,Sort u6}{a6:∀ x0:a0,∀ x1:a1 x0,∀ x2:a2 x0 x1,∀ x3:a3 x0 x1 x2,∀ x4:a4 x0 x1 x2 x3,∀ x5:a5 x0 x1 x2 x3 x4,Sort u7}{a7:∀ x0:a0,∀ x1:a1 x0,∀ x2:a2 x0 x1,∀ x3:a3 x0 x1 x2,∀ x4:a4 x0 x1 x2 x3,∀ x5:a5 x0 x1 x2 x3 x4,∀ x6:a6 x0 x1 x2 x3 x4 x5,Sort u8}{a8:∀ x0:a0,∀ x1:a1 x0,∀ x2:a2 x0 x1,∀ x3:a3 x0 x1 x2,∀ x4:a4 x0 x1 x2 x3,∀ x5:a5 x0 x1 x2 x3 x4,∀ x6:a6 x0 x1 x2 x3 x4 x5,∀ x7:a7 x0 x1 x2 x3 x4 x5 x6,Sort u9}{p0 p1 p2 p3 p4 p5:Prop}{q0 q1 q2 q3 q4 q5 q6 q7:∀ x0:a0,Prop}{r0 r1 r2 r3 r4 r5 r6 r7:∀ x0:a0,∀ x1:a1 x0,Prop}{s0 s1 s2 s3 s4 s5 s6:∀ x0:a0,∀ x1:a1 x0,∀ x2:a2 x0 x1,Prop}{t0 t1 t2 t3 t4 t5 t6 t7 t8 t9 yo:∀ x0:a0,∀ x1:a1 x0,∀ x2:a2 x0 x1,∀ x3:a3 x0 x1 x2,Prop}{u0 u1 u2 u3 u4 u5 u6 u7 u8 u9:∀ x0:a0,∀ x1:a1 x0,∀ x2:a2 x0 x1,∀ x3:a3 x0 x1 x2,∀ x4:a4 x0 x1 x2 x3,Prop}{v0 v1 v2 v3 v4 v5 v6:∀ x0:a0,∀ x1:a1 x0,∀ x2:a2 x0 x1,∀ x3:a3 x0 x1 x2,∀ x4:a4 x0 x1 x2 x3,∀ x5:a5 x0 x1 x2 x3 x4,Prop}{w0 w1 w2 w3 w4:∀ x0:a0,∀ x1:a1 x0,∀ x2:a2 x0 x1,∀ x3:a3 x0 x1 x2,∀ x4:a4 x0 x1 x2 x3,∀ x5:a5 x0 x1 x2 x3 x4,∀ x6:a6 x0 x1 x2 x3 x4 x5,Prop}{z0 z1 z2 z3 z4 z5 z6 z7 z8 z9:∀ x0:a0,∀ x1:a1 x0,∀ x2:a2 x0 x1,∀ x3:a3 x0 x1 x2,∀ x4:a4 x0 x1 x2 x3,∀ x5:a5 x0 x1 x2 x3 x4,∀ x6:a6 x0 x1 x2 x3 x4 x5,∀ x7:a7 x0 x1 x2 x3 x4 x5 x6,∀ x8:a8 x0 x1 x2 x3 x4 x5 x6 x7,Prop}{G:Prop}
theorem aX(h:false=true):G:=Bool.noConfusion h
theorem gr(h:true=false):G:=Bool.noConfusion h
theorem aT{α:Type u1}{a:α}(h:none=some a):G:=by cases h
theorem nk{α:Type u1}{a:α}(h:some a=none):G:=by cases h
theorem ae(h:p0/\p1)(k:p0->p1->G):G:=k h.1 h.2
theorem aL(h:∃ a,q0 a)(k:∀ a,q0 a->G):G:=h.elim λa h=>k a h
theorem bU(h:p0/\p1/\p2)(k:p0->p1->p2->G):G:=k h.1 h.2.1 h.2.2
theorem Lz(h:p0/\∃ a,q0 a)(k:p0->∀ a,q0 a->G):G:=h.2.elim λa b=>k h.1 a b
theorem Y(h:∃ a,q0 a/\q1 a)(k:∀ a,q0 a->q1 a->G):G:=h.elim λa h=>k a h.1 h.2
theorem eZ(h:∃ a,∃ b,r0 a b)(k:∀ a,∀ b,r0 a b->G):G:=h.elim λa h=>h.elim λb h=>k a b h
theorem j5(h:p0/\p1/\p2/\p3)(k:p0->p1->p2->p3->G):G:=k h.1 h.2.1 h.2.2.1 h.2.2.2
theorem AL(h:p0/\∃ a,q0 a/\q1 a)(k:p0->∀ a,q0 a->q1 a->G):G:=h.2.elim λa b=>k h.1 a b.1 b.2
theorem Hb(h:p0/\∃ a,∃ b,r0 a b)(k:p0->∀ a,∀ b,r0 a b->G):G:=h.2.elim λa c=>c.elim λb d=>k h.1 a b d
theorem cK(h:∃ a,q0 a/\q1 a/\q2 a)(k:∀ a,q0 a->q1 a->q2 a->G):G:=h.elim λa h=>k a h.1 h.2.1 h.2.2
theorem be(h:∃ a,∃ b,r0 a b/\r1 a b)(k:∀ a,∀ b,r0 a b->r1 a b->G):G:=h.elim λa h=>h.elim λb h=>k a b h.1 h.2
theorem V2(h:p0/\∃ a,q0 a/\q1 a/\q2 a)(k:p0->∀ a,q0 a->q1 a->q2 a->G):G:=h.2.elim λa b=>k h.1 a b.1 b.2.1 b.2.2
theorem Gk(h:p0/\∃ a,∃ b,r0 a b/\r1 a b)(k:p0->∀ a,∀ b,r0 a b->r1 a b->G):G:=h.2.elim λa d=>d.elim λb c=>k h.1 a b c.1 c.2
theorem j1(h:∃ a,q0 a/\q1 a/\q2 a/\q3 a)(k:∀ a,q0 a->q1 a->q2 a->q3 a->G):G:=h.elim λa h=>k a h.1 h.2.1 h.2.2.1 h.2.2.2
theorem kU(h:∃ a,q0 a/\q1 a/\∃ b,r0 a b)(k:∀ a,q0 a->q1 a->∀ b,r0 a b->G):G:=h.elim λa c=>c.2.2.elim λb d=>k a c.1 c.2.1 b d
theorem aH(h:∃ a,∃ b,r0 a b/\r1 a b/\r2 a b)(k:∀ a,∀ b,r0 a b->r1 a b->r2 a b->G):G:=h.elim λa h=>h.elim λb h=>k a b h.1 h.2.1 h.2.2
theorem kW(h:∃ a,∃ b,∃ c,s0 a b c/\s1 a b c)(k:∀ a,∀ b,∀ c,s0 a b c->s1 a b c->G):G:=h.elim λa h=>h.elim λb h=>h.elim λc h=>k a b c h.1 h.2
theorem gH(h:∃ a,∃ b,∃ c,∃ d,t0 a b c d)(k:∀ a,∀ b,∀ c,∀ d,t0 a b c d->G):G:=h.elim λa h=>h.elim λb h=>h.elim λc h=>h.elim λd h=>k a b c d h
theorem Ft(h:p0/\p1/\p2/\p3/\p4/\p5)(k:p0->p1->p2->p3->p4->p5->G):G:=k h.1 h.2.1 h.2.2.1 h.2.2.2.1 h.2.2.2.2.1 h.2.2.2.2.2
theorem kN(h:p0/\∃ a,∃ b,r0 a b/\r1 a b/\r2 a b)(k:p0->∀ a,∀ b,r0 a b->r1 a b->r2 a b->G):G:=h.2.elim λa d=>d.elim λb c=>k h.1 a b c.1 c.2.1 c.2.2
theorem Ul(h:∃ a,q0 a/\q1 a/\q2 a/\q3 a/\q4 a)(k:∀ a,q0 a->q1 a->q2 a->q3 a->q4 a->G):G:=h.elim λa h=>k a h.1 h.2.1 h.2.2.1 h.2.2.2.1 h.2.2.2.2
theorem eJ(h:∃ a,∃ b,r0 a b/\r1 a b/\r2 a b/\r3 a b)(k:∀ a,∀ b,r0 a b->r1 a b->r2 a b->r3 a b->G):G:=h.elim λa h=>h.elim λb h=>k a b h.1 h.2.1 h.2.2.1 h.2.2.2
theorem cj(h:∃ a,∃ b,∃ c,s0 a b c/\s1 a b c/\s2 a b c)(k:∀ a,∀ b,∀ c,s0 a b c->s1 a b c->s2 a b c->G):G:=h.elim λa h=>h.elim λb h=>h.elim λc h=>k a b c h.1 h.2.1 h.2.2
theorem Um(h:∃ a,∃ b,∃ c,∃ d,∃ e,u0 a b c d e)(k:∀ a,∀ b,∀ c,∀ d,∀ e,u0 a b c d e->G):G:=h.elim λa h=>h.elim λb h=>h.elim λc h=>h.elim λd h=>h.elim λe h=>k a b c d e h
theorem EK(h:∃ a,q0 a/\q1 a/\q2 a/\q3 a/\q4 a/\q5 a)(k:∀ a,q0 a->q1 a->q2 a->q3 a->q4 a->q5 a->G):G:=h.elim λa h=>k a h.1 h.2.1 h.2.2.1 h.2.2.2.1 h.2.2.2.2.1 h.2.2.2.2.2
theorem kJ(h:∃ a,∃ b,r0 a b/\r1 a b/\r2 a b/\r3 a b/\r4 a b)(k:∀ a,∀ b,r0 a b->r1 a b->r2 a b->r3 a b->r4 a b->G):G:=h.elim λa h=>h.elim λb h=>k a b h.1 h.2.1 h.2.2.1 h.2.2.2.1 h.2.2.2.2
theorem gC(h:∃ a,∃ b,∃ c,s0 a b c/\s1 a b c/\s2 a b c/\s3 a b c)(k:∀ a,∀ b,∀ c,s0 a b c->s1 a b c->s2 a b c->s3 a b c->G):G:=h.elim λa h=>h.elim λb h=>h.elim λc h=>k a b c h.1 h.2.1 h.2.2.1 h.2.2.2
theorem RQ(h:∃ a,∃ b,∃ c,∃ d,∃ e,u0 a b c d e/\u1 a b c d e)(k:∀ a,∀ b,∀ c,∀ d,∀ e,u0 a b c d e->u1 a b c d e->G):G:=h.elim λa h=>h.elim λb h=>h.elim λc h=>h.elim λd h=>h.elim λe h=>k a b c d e h.1 h.2
theorem RU(h:∃ a,∃ b,∃ c,∃ d,∃ e,∃ f,v0 a b c d e f)(k:∀ a,∀ b,∀ c,∀ d,∀ e,∀ f,v0 a b c d e f->G):G:=h.elim λa h=>h.elim λb h=>h.elim λc h=>h.elim λd h=>h.elim λe h=>h.elim λf h=>k a b c d e f h
theorem sa(h:∃ a,∃ b,∃ c,s0 a b c/\s1 a b c/\s2 a b c/\s3 a b c/\s4 a b c)(k:∀ a,∀ b,∀ c,s0 a b c->s1 a b c->s2 a b c->s3 a b c->s4 a b c->G):G:=h.elim λa h=>h.elim λb h=>h.elim λc h=>k a b c h.1 h.2.1 h.2.2.1 h.2.2.2.1 h.2.2.2.2
theorem pQ(h:∃ a,∃ b,∃ c,∃ d,t0 a b c d/\t1 a b c d/\t2 a b c d/\t3 a b c d)(k:∀ a,∀ b,∀ c,∀ d,t0 a b c d->t1 a b c d->t2 a b c d->t3 a b c d->G):G:=h.elim λa h=>h.elim λb h=>h.elim λc h=>h.elim λd h=>k a b c d h.1 h.2.1 h.2.2.1 h.2.2.2
theorem sb(h:∃ a,∃ b,∃ c,∃ d,∃ e,u0 a b c d e/\u1 a b c d e/\u2 a b c d e)(k:∀ a,∀ b,∀ c,∀ d,∀ e,u0 a b c d e->u1 a b c d e->u2 a b c d e->G):G:=h.elim λa h=>h.elim λb h=>h.elim λc h=>h.elim λd h=>h.elim λe h=>k a b c d e h.1 h.2.1 h.2.2
theorem vn(h:∃ a,q0 a/\q1 a/\q2 a/\q3 a/\q4 a/\q5 a/\q6 a/\q7 a)(k:∀ a,q0 a->q1 a->q2 a->q3 a->q4 a->q5 a->q6 a->q7 a->G):G:=h.elim λa h=>k a h.1 h.2.1 h.2.2.1 h.2.2.2.1 h.2.2.2.2.1 h.2.2.2.2.2.1 h.2.2.2.2.2.2.1 h.2.2.2.2.2.2.2
theorem P4(h:∃ a,q0 a/\∃ b,∃ c,s0 a b c/\s1 a b c/\s2 a b c/\s3 a b c/\s4 a b c)(k:∀ a,q0 a->∀ b,∀ c,s0 a b c->s1 a b c->s2 a b c->s3 a b c->s4 a b c->G):G:=h.elim λa e=>e.2.elim λb f=>f.elim λc d=>k a e.1 b c d.1 d.2.1 d.2.2.1 d.2.2.2.1 d.2.2.2.2
theorem Ea(h:∃ a,∃ b,r0 a b/\r1 a b/\r2 a b/\r3 a b/\r4 a b/\r5 a b/\r6 a b)(k:∀ a,∀ b,r0 a b->r1 a b->r2 a b->r3 a b->r4 a b->r5 a b->r6 a b->G):G:=h.elim λa h=>h.elim λb h=>k a b h.1 h.2.1 h.2.2.1 h.2.2.2.1 h.2.2.2.2.1 h.2.2.2.2.2.1 h.2.2.2.2.2.2
theorem P5(h:∃ a,∃ b,∃ c,s0 a b c/\s1 a b c/\s2 a b c/\s3 a b c/\s4 a b c/\s5 a b c)(k:∀ a,∀ b,∀ c,s0 a b c->s1 a b c->s2 a b c->s3 a b c->s4 a b c->s5 a b c->G):G:=h.elim λa h=>h.elim λb h=>h.elim λc h=>k a b c h.1 h.2.1 h.2.2.1 h.2.2.2.1 h.2.2.2.2.1 h.2.2.2.2.2
theorem ir(h:∃ a,∃ b,∃ c,∃ d,t0 a b c d/\t1 a b c d/\t2 a b c d/\t3 a b c d/\t4 a b c d)(k:∀ a,∀ b,∀ c,∀ d,t0 a b c d->t1 a b c d->t2 a b c d->t3 a b c d->t4 a b c d->G):G:=h.elim λa h=>h.elim λb h=>h.elim λc h=>h.elim λd h=>k a b c d h.1 h.2.1 h.2.2.1 h.2.2.2.1 h.2.2.2.2
theorem PF(h:∃ a,∃ b,∃ c,s0 a b c/\s1 a b c/\s2 a b c/\s3 a b c/\s4 a b c/\s5 a b c/\s6 a b c)(k:∀ a,∀ b,∀ c,s0 a b c->s1 a b c->s2 a b c->s3 a b c->s4 a b c->s5 a b c->s6 a b c->G):G:=h.elim λa h=>h.elim λb h=>h.elim λc h=>k a b c h.1 h.2.1 h.2.2.1 h.2.2.2.1 h.2.2.2.2.1 h.2.2.2.2.2.1 h.2.2.2.2.2.2
theorem PG(h:∃ a,∃ b,∃ c,s0 a b c/\s1 a b c/\s2 a b c/\s3 a b c/\∃ d,t0 a b c d/\t1 a b c d)(k:∀ a,∀ b,∀ c,s0 a b c->s1 a b c->s2 a b c->s3 a b c->∀ d,t0 a b c d->t1 a b c d->G):G:=h.elim λa g=>g.elim λb i=>i.elim λc e=>e.2.2.2.2.elim λd f=>k a b c e.1 e.2.1 e.2.2.1 e.2.2.2.1 d f.1 f.2
theorem zf(h:∃ a,∃ b,∃ c,∃ d,t0 a b c d/\t1 a b c d/\t2 a b c d/\t3 a b c d/\t4 a b c d/\t5 a b c d)(k:∀ a,∀ b,∀ c,∀ d,t0 a b c d->t1 a b c d->t2 a b c d->t3 a b c d->t4 a b c d->t5 a b c d->G):G:=h.elim λa h=>h.elim λb h=>h.elim λc h=>h.elim λd h=>k a b c d h.1 h.2.1 h.2.2.1 h.2.2.2.1 h.2.2.2.2.1 h.2.2.2.2.2
theorem PH(h:∃ a,∃ b,∃ c,∃ d,∃ e,u0 a b c d e/\u1 a b c d e/\u2 a b c d e/\u3 a b c d e/\u4 a b c d e)(k:∀ a,∀ b,∀ c,∀ d,∀ e,u0 a b c d e->u1 a b c d e->u2 a b c d e->u3 a b c d e->u4 a b c d e->G):G:=h.elim λa h=>h.elim λb h=>h.elim λc h=>h.elim λd h=>h.elim λe h=>k a b c d e h.1 h.2.1 h.2.2.1 h.2.2.2.1 h.2.2.2.2
theorem D0(h:∃ a,∃ b,∃ c,∃ d,∃ e,u0 a b c d e/\u1 a b c d e/\u2 a b c d e/\u3 a b c d e/\u4 a b c d e/\u5 a b c d e)(k:∀ a,∀ b,∀ c,∀ d,∀ e,u0 a b c d e->u1 a b c d e->u2 a b c d e->u3 a b c d e->u4 a b c d e->u5 a b c d e->G):G:=h.elim λa h=>h.elim λb h=>h.elim λc h=>h.elim λd h=>h.elim λe h=>k a b c d e h.1 h.2.1 h.2.2.1 h.2.2.2.1 h.2.2.2.2.1 h.2.2.2.2.2
theorem DQ(h:∃ a,∃ b,∃ c,∃ d,∃ e,u0 a b c d e/\u1 a b c d e/\u2 a b c d e/\u3 a b c d e/\u4 a b c d e/\u5 a b c d e/\u6 a b c d e/\u7 a b c d e/\u8 a b c d e)(k:∀ a,∀ b,∀ c,∀ d,∀ e,u0 a b c d e->u1 a b c d e->u2 a b c d e->u3 a b c d e->u4 a b c d e->u5 a b c d e->u6 a b c d e->u7 a b c d e->u8 a b c d e->G):G:=h.elim λa h=>h.elim λb h=>h.elim λc h=>h.elim λd h=>h.elim λe h=>k a b c d e h.1 h.2.1 h.2.2.1 h.2.2.2.1 h.2.2.2.2.1 h.2.2.2.2.2.1 h.2.2.2.2.2.2.1 h.2.2.2.2.2.2.2.1 h.2.2.2.2.2.2.2.2
theorem O6(h:∃ a,∃ b,∃ c,∃ d,t0 a b c d/\t1 a b c d/\t2 a b c d/\t3 a b c d/\t4 a b c d/\t5 a b c d/\t6 a b c d/\t7 a b c d/\t8 a b c d/\t9 a b c d/\yo a b c d)(k:∀ a,∀ b,∀ c,∀ d,t0 a b c d->t1 a b c d->t2 a b c d->t3 a b c d->t4 a b c d->t5 a b c d->t6 a b c d->t7 a b c d->t8 a b c d->t9 a b c d->yo a b c d->G):G:=h.elim λa h=>h.elim λb h=>h.elim λc h=>h.elim λd h=>k a b c d h.1 h.2.1 h.2.2.1 h.2.2.2.1 h.2.2.2.2.1 h.2.2.2.2.2.1 h.2.2.2.2.2.2.1 h.2.2.2.2.2.2.2.1 h.2.2.2.2.2.2.2.2.1 h.2.2.2.2.2.2.2.2.2.1 h.2.2.2.2.2.2.2.2.2.2
theorem O7(h:∃ a,∃ b,∃ c,∃ d,∃ e,u0 a b c d e/\u1 a b c d e/\u2 a b c d e/\u3 a b c d e/\u4 a b c d e/\u5 a b c d e/\u6 a b c d e/\u7 a b c d e/\u8 a b c d e/\u9 a b c d e)(k:∀ a,∀ b,∀ c,∀ d,∀ e,u0 a b c d e->u1 a b c d e->u2 a b c d e->u3 a b c d e->u4 a b c d e->u5 a b c d e->u6 a b c d e->u7 a b c d e->u8 a b c d e->u9 a b c d e->G):G:=h.elim λa h=>h.elim λb h=>h.elim λc h=>h.elim λd h=>h.elim λe h=>k a b c d e h.1 h.2.1 h.2.2.1 h.2.2.2.1 h.2.2.2.2.1 h.2.2.2.2.2.1 h.2.2.2.2.2.2.1 h.2.2.2.2.2.2.2.1 h.2.2.2.2.2.2.2.2.1 h.2.2.2.2.2.2.2.2.2
theorem O2(h:∃ a,∃ b,∃ c,s0 a b c/\s1 a b c/\s2 a b c/\s3 a b c/\∃ d,t0 a b c d/\t1 a b c d/\t2 a b c d/\t3 a b c d/\t4 a b c d/\t5 a b c d/\t6 a b c d/\t7 a b c d)(k:∀ a,∀ b,∀ c,s0 a b c->s1 a b c->s2 a b c->s3 a b c->∀ d,t0 a b c d->t1 a b c d->t2 a b c d->t3 a b c d->t4 a b c d->t5 a b c d->t6 a b c d->t7 a b c d->G):G:=h.elim λa g=>g.elim λb i=>i.elim λc f=>f.2.2.2.2.elim λd e=>k a b c f.1 f.2.1 f.2.2.1 f.2.2.2.1 d e.1 e.2.1 e.2.2.1 e.2.2.2.1 e.2.2.2.2.1 e.2.2.2.2.2.1 e.2.2.2.2.2.2.1 e.2.2.2.2.2.2.2
theorem bH(a:p0)(b:p1)(c:p2):p0/\p1/\p2:=⟨a,b,c⟩
theorem LA(b:p0)(a)(c:q0 a):p0/\∃ a,q0 a:=⟨b,a,c⟩
theorem ay(a)(b:q0 a)(c:q1 a):∃ a,q0 a/\q1 a:=⟨a,b,c⟩
theorem LB(a)(b)(c:r0 a b):∃ a,∃ b,r0 a b:=⟨a,b,c⟩
theorem j6(a:p0)(b:p1)(c:p2)(d:p3):p0/\p1/\p2/\p3:=⟨a,b,c,d⟩
theorem we(b:p0)(a)(c:q0 a)(d:q1 a):p0/\∃ a,q0 a/\q1 a:=⟨b,a,c,d⟩
theorem X0(c:p0)(a)(b)(d:r0 a b):p0/\∃ a,∃ b,r0 a b:=⟨c,a,b,d⟩
theorem dJ(a)(b:q0 a)(c:q1 a)(d:q2 a):∃ a,q0 a/\q1 a/\q2 a:=⟨a,b,c,d⟩
theorem gJ(a)(b)(c:r0 a b)(d:r1 a b):∃ a,∃ b,r0 a b/\r1 a b:=⟨a,b,c,d⟩
theorem Gn(b:p0)(a)(c:q0 a)(d:q1 a)(e:q2 a):p0/\∃ a,q0 a/\q1 a/\q2 a:=⟨b,a,c,d,e⟩
theorem Ak(c:p0)(a)(b)(d:r0 a b)(e:r1 a b):p0/\∃ a,∃ b,r0 a b/\r1 a b:=⟨c,a,b,d,e⟩
theorem nU(a)(b:q0 a)(c:q1 a)(d:q2 a)(e:q3 a):∃ a,q0 a/\q1 a/\q2 a/\q3 a:=⟨a,b,c,d,e⟩
theorem fC(a)(c:q0 a)(d:q1 a)(b)(e:r0 a b):∃ a,q0 a/\q1 a/\∃ b,r0 a b:=⟨a,c,d,b,e⟩
theorem bB(a)(b)(c:r0 a b)(d:r1 a b)(e:r2 a b):∃ a,∃ b,r0 a b/\r1 a b/\r2 a b:=⟨a,b,c,d,e⟩
theorem vV(a)(b)(c)(d:s0 a b c)(e:s1 a b c):∃ a,∃ b,∃ c,s0 a b c/\s1 a b c:=⟨a,b,c,d,e⟩
theorem nV(a)(b)(c)(d)(e:t0 a b c d):∃ a,∃ b,∃ c,∃ d,t0 a b c d:=⟨a,b,c,d,e⟩
theorem Fu(a:p0)(b:p1)(c:p2)(d:p3)(e:p4)(f:p5):p0/\p1/\p2/\p3/\p4/\p5:=⟨a,b,c,d,e,f⟩
theorem nO(c:p0)(a)(b)(d:r0 a b)(e:r1 a b)(f:r2 a b):p0/\∃ a,∃ b,r0 a b/\r1 a b/\r2 a b:=⟨c,a,b,d,e,f⟩
theorem Un(a)(b:q0 a)(c:q1 a)(d:q2 a)(e:q3 a)(f:q4 a):∃ a,q0 a/\q1 a/\q2 a/\q3 a/\q4 a:=⟨a,b,c,d,e,f⟩
theorem p8(a)(b)(c:r0 a b)(d:r1 a b)(e:r2 a b)(f:r3 a b):∃ a,∃ b,r0 a b/\r1 a b/\r2 a b/\r3 a b:=⟨a,b,c,d,e,f⟩
theorem dy(a)(b)(c)(d:s0 a b c)(e:s1 a b c)(f:s2 a b c):∃ a,∃ b,∃ c,s0 a b c/\s1 a b c/\s2 a b c:=⟨a,b,c,d,e,f⟩
theorem EL(a)(b:q0 a)(c:q1 a)(d:q2 a)(e:q3 a)(f:q4 a)(g:q5 a):∃ a,q0 a/\q1 a/\q2 a/\q3 a/\q4 a/\q5 a:=⟨a,b,c,d,e,f,g⟩
theorem RW(a)(d:q0 a)(b)(c)(e:s0 a b c)(f:s1 a b c)(g:s2 a b c):∃ a,q0 a/\∃ b,∃ c,s0 a b c/\s1 a b c/\s2 a b c:=⟨a,d,b,c,e,f,g⟩
theorem vA(a)(b)(c:r0 a b)(d:r1 a b)(e:r2 a b)(f:r3 a b)(g:r4 a b):∃ a,∃ b,r0 a b/\r1 a b/\r2 a b/\r3 a b/\r4 a b:=⟨a,b,c,d,e,f,g⟩
theorem l8(a)(b)(c)(d:s0 a b c)(e:s1 a b c)(f:s2 a b c)(g:s3 a b c):∃ a,∃ b,∃ c,s0 a b c/\s1 a b c/\s2 a b c/\s3 a b c:=⟨a,b,c,d,e,f,g⟩
theorem RX(a)(b)(c)(d)(e)(f)(g:v0 a b c d e f):∃ a,∃ b,∃ c,∃ d,∃ e,∃ f,v0 a b c d e f:=⟨a,b,c,d,e,f,g⟩
theorem QH(a)(d:q0 a)(e:q1 a)(b)(c)(f:s0 a b c)(g:s1 a b c)(h:s2 a b c):∃ a,q0 a/\q1 a/\∃ b,∃ c,s0 a b c/\s1 a b c/\s2 a b c:=⟨a,d,e,b,c,f,g,h⟩
theorem QI(a)(e:q0 a)(b)(c)(d)(f:t0 a b c d)(g:t1 a b c d)(h:t2 a b c d):∃ a,q0 a/\∃ b,∃ c,∃ d,t0 a b c d/\t1 a b c d/\t2 a b c d:=⟨a,e,b,c,d,f,g,h⟩
theorem vt(a)(b)(c:r0 a b)(d:r1 a b)(e:r2 a b)(f:r3 a b)(g:r4 a b)(h:r5 a b):∃ a,∃ b,r0 a b/\r1 a b/\r2 a b/\r3 a b/\r4 a b/\r5 a b:=⟨a,b,c,d,e,f,g,h⟩
theorem zm(a)(b)(c)(d:s0 a b c)(e:s1 a b c)(f:s2 a b c)(g:s3 a b c)(h:s4 a b c):∃ a,∃ b,∃ c,s0 a b c/\s1 a b c/\s2 a b c/\s3 a b c/\s4 a b c:=⟨a,b,c,d,e,f,g,h⟩
theorem pR(a)(b)(c)(d)(e:t0 a b c d)(f:t1 a b c d)(g:t2 a b c d)(h:t3 a b c d):∃ a,∃ b,∃ c,∃ d,t0 a b c d/\t1 a b c d/\t2 a b c d/\t3 a b c d:=⟨a,b,c,d,e,f,g,h⟩
theorem r9(a)(b:q0 a)(c:q1 a)(d:q2 a)(e:q3 a)(f:q4 a)(g:q5 a)(h:q6 a)(i:q7 a):∃ a,q0 a/\q1 a/\q2 a/\q3 a/\q4 a/\q5 a/\q6 a/\q7 a:=⟨a,b,c,d,e,f,g,h,i⟩
theorem P6(a)(b)(c:r0 a b)(d:r1 a b)(e:r2 a b)(f:r3 a b)(g:r4 a b)(h:r5 a b)(i:r6 a b):∃ a,∃ b,r0 a b/\r1 a b/\r2 a b/\r3 a b/\r4 a b/\r5 a b/\r6 a b:=⟨a,b,c,d,e,f,g,h,i⟩
theorem P7(a)(b)(c)(d:s0 a b c)(e:s1 a b c)(f:s2 a b c)(g:s3 a b c)(h:s4 a b c)(i:s5 a b c):∃ a,∃ b,∃ c,s0 a b c/\s1 a b c/\s2 a b c/\s3 a b c/\s4 a b c/\s5 a b c:=⟨a,b,c,d,e,f,g,h,i⟩
theorem zi(a)(b)(c)(d)(e:t0 a b c d)(f:t1 a b c d)(g:t2 a b c d)(h:t3 a b c d)(i:t4 a b c d):∃ a,∃ b,∃ c,∃ d,t0 a b c d/\t1 a b c d/\t2 a b c d/\t3 a b c d/\t4 a b c d:=⟨a,b,c,d,e,f,g,h,i⟩
theorem PI(a)(b)(c:r0 a b)(d:r1 a b)(e:r2 a b)(f:r3 a b)(g:r4 a b)(h:r5 a b)(i:r6 a b)(j:r7 a b):∃ a,∃ b,r0 a b/\r1 a b/\r2 a b/\r3 a b/\r4 a b/\r5 a b/\r6 a b/\r7 a b:=⟨a,b,c,d,e,f,g,h,i,j⟩
theorem PJ(a)(b)(f:r0 a b)(c)(d)(e)(g:u0 a b c d e)(h:u1 a b c d e)(i:u2 a b c d e)(j:u3 a b c d e):∃ a,∃ b,r0 a b/\∃ c,∃ d,∃ e,u0 a b c d e/\u1 a b c d e/\u2 a b c d e/\u3 a b c d e:=⟨a,b,f,c,d,e,g,h,i,j⟩
theorem PK(a)(b)(c)(d:s0 a b c)(e:s1 a b c)(f:s2 a b c)(g:s3 a b c)(h:s4 a b c)(i:s5 a b c)(j:s6 a b c):∃ a,∃ b,∃ c,s0 a b c/\s1 a b c/\s2 a b c/\s3 a b c/\s4 a b c/\s5 a b c/\s6 a b c:=⟨a,b,c,d,e,f,g,h,i,j⟩
theorem vm(a)(b)(c)(d)(e:t0 a b c d)(f:t1 a b c d)(g:t2 a b c d)(h:t3 a b c d)(i:t4 a b c d)(j:t5 a b c d):∃ a,∃ b,∃ c,∃ d,t0 a b c d/\t1 a b c d/\t2 a b c d/\t3 a b c d/\t4 a b c d/\t5 a b c d:=⟨a,b,c,d,e,f,g,h,i,j⟩
theorem Pq(a)(b)(c)(d)(e)(f:u0 a b c d e)(g:u1 a b c d e)(h:u2 a b c d e)(i:u3 a b c d e)(j:u4 a b c d e)(k:u5 a b c d e)(l:u6 a b c d e):∃ a,∃ b,∃ c,∃ d,∃ e,u0 a b c d e/\u1 a b c d e/\u2 a b c d e/\u3 a b c d e/\u4 a b c d e/\u5 a b c d e/\u6 a b c d e:=⟨a,b,c,d,e,f,g,h,i,j,k,l⟩
theorem Pr(a)(b)(c)(d)(e)(f)(g)(h:w0 a b c d e f g)(i:w1 a b c d e f g)(j:w2 a b c d e f g)(k:w3 a b c d e f g)(l:w4 a b c d e f g):∃ a,∃ b,∃ c,∃ d,∃ e,∃ f,∃ g,w0 a b c d e f g/\w1 a b c d e f g/\w2 a b c d e f g/\w3 a b c d e f g/\w4 a b c d e f g:=⟨a,b,c,d,e,f,g,h,i,j,k,l⟩
theorem Pf(a)(g:q0 a)(b)(c)(d)(e)(f)(h:v0 a b c d e f)(i:v1 a b c d e f)(j:v2 a b c d e f)(k:v3 a b c d e f)(l:v4 a b c d e f)(m:v5 a b c d e f)(n:v6 a b c d e f):∃ a,q0 a/\∃ b,∃ c,∃ d,∃ e,∃ f,v0 a b c d e f/\v1 a b c d e f/\v2 a b c d e f/\v3 a b c d e f/\v4 a b c d e f/\v5 a b c d e f/\v6 a b c d e f:=⟨a,g,b,c,d,e,f,h,i,j,k,l,m,n⟩
theorem Pg(a)(b)(c)(d)(e)(f:u0 a b c d e)(g:u1 a b c d e)(h:u2 a b c d e)(i:u3 a b c d e)(j:u4 a b c d e)(k:u5 a b c d e)(l:u6 a b c d e)(m:u7 a b c d e)(n:u8 a b c d e):∃ a,∃ b,∃ c,∃ d,∃ e,u0 a b c d e/\u1 a b c d e/\u2 a b c d e/\u3 a b c d e/\u4 a b c d e/\u5 a b c d e/\u6 a b c d e/\u7 a b c d e/\u8 a b c d e:=⟨a,b,c,d,e,f,g,h,i,j,k,l,m,n⟩
theorem O8(a)(b)(c)(d)(e:t0 a b c d)(f:t1 a b c d)(g:t2 a b c d)(h:t3 a b c d)(i:t4 a b c d)(j:t5 a b c d)(k:t6 a b c d)(l:t7 a b c d)(m:t8 a b c d)(n:t9 a b c d)(o:yo a b c d):∃ a,∃ b,∃ c,∃ d,t0 a b c d/\t1 a b c d/\t2 a b c d/\t3 a b c d/\t4 a b c d/\t5 a b c d/\t6 a b c d/\t7 a b c d/\t8 a b c d/\t9 a b c d/\yo a b c d:=⟨a,b,c,d,e,f,g,h,i,j,k,l,m,n,o⟩
theorem O9(a)(b)(c)(d)(e)(f:u0 a b c d e)(g:u1 a b c d e)(h:u2 a b c d e)(i:u3 a b c d e)(j:u4 a b c d e)(k:u5 a b c d e)(l:u6 a b c d e)(m:u7 a b c d e)(n:u8 a b c d e)(o:u9 a b c d e):∃ a,∃ b,∃ c,∃ d,∃ e,u0 a b c d e/\u1 a b c d e/\u2 a b c d e/\u3 a b c d e/\u4 a b c d e/\u5 a b c d e/\u6 a b c d e/\u7 a b c d e/\u8 a b c d e/\u9 a b c d e:=⟨a,b,c,d,e,f,g,h,i,j,k,l,m,n,o⟩
theorem O0(a)(b)(c)(d)(e)(f)(g)(h)(i)(j:z0 a b c d e f g h i)(k:z1 a b c d e f g h i)(l:z2 a b c d e f g h i)(m:z3 a b c d e f g h i)(n:z4 a b c d e f g h i)(o:z5 a b c d e f g h i)(p:z6 a b c d e f g h i)(q:z7 a b c d e f g h i)(r:z8 a b c d e f g h i)(s:z9 a b c d e f g h i):∃ a,∃ b,∃ c,∃ d,∃ e,∃ f,∃ g,∃ h,∃ i,z0 a b c d e f g h i/\z1 a b c d e f g h i/\z2 a b c d e f g h i/\z3 a b c d e f g h i/\z4 a b c d e f g h i/\z5 a b c d e f g h i/\z6 a b c d e f g h i/\z7 a b c d e f g h i/\z8 a b c d e f g h i/\z9 a b c d e f g h i:=⟨a,b,c,d,e,f,g,h,i,j,k,l,m,n,o,p,q,r,s⟩
end
inductive O:Type where
 |none|bool (b:Bool)|int (i:Int)|str (s:Str)
 |tup (vs:List O)
 |hl (vs:List O)
 |may (c:Nat)(v:O)
 |ref (i:Nat)
 |glob (a:aez)
 |ty (f k:Nat)
 |cu (f:aez)(self:O)
 |bY (id:Nat)(aK:List (Nat×Nat))
 |bR
 |fk (C:aez)
 deriving Inhabited
inductive AO:Type where
 |list (vs:List O)
 |dict (es:List (Str×O))
 |obj (C:aez)(es:List (Str×O))
 |own
 |cell (v:Option O)
 |src (k:Nat)
 |any
 |tab (P:Nat)(q:Str)
 deriving Inhabited
structure mT where
 param:Str
 body:FuncBody
 scope:afC
structure KT where
 K:afV
 θ:Nat->Nat->O
 cond:Nat->Bool
 src:List (aez×List ael)
 bY:Nat->Option mT
noncomputable abbrev Led:=List (aez×Obj)
noncomputable def lk{α:Type}(n:Nat) (l:List (Nat×α)):Option α:=aeL none (λe b a=>aex a (some e.2) (aew n e.1)) l
theorem eD{α:Type}{e:Nat×α}{l:List (Nat×α)}:lk n (e::l)=if n=e.1 then some e.2 else lk n l:=by
 show aex (motive:=λa=>Option α) (lk n l) (some e.2) (aew n e.1)=_
 induction q:aew n e.1 using aen with
 |false=>rw[if_neg λh=>by rw[h,afI]at q;exact gr q]
 |true=>rw[if_pos (aem q)]
noncomputable def gj (sc:afC)(α:List aez)(b:List (Nat×Nat))(c:List (Str×aez)):Prop:=∀ n i,lk n b=some i->∃ x k a,sc.names[n]?=some (x,k)/\c.lookup x=some a/\α[i]?=some a
noncomputable def i8 (α:List aez)(N:Led)(d:ael)(e:Str):Prop:=∃ a b c t,d=.ref a/\(a,b)∈N/\a∉α/\b.data=.fields c/\c[1]?=some (.str e t)
noncomputable def qt (α:List aez)(N:Led)(o:Obj)(d:mT)(b:List (Nat×Nat)):Prop:=
 ∃ a:ahG,o.data=.func a/\a.body=d.body/\a.scope=d.scope/\a.globals=afa/\a.builtins=agP/\(∀ v,agL a ⟨[v],[]⟩=pure [(d.param,v)])/\i8 α N a.code a.qualname/\gj d.scope α b a.closure
mutual
inductive VR (T:KT) (α:List aez) (N:Led):ael->O->Prop
 |none:VR T α N .none .none
 |bool (b):VR T α N (.bool b) (.bool b)
 |int (i t):VR T α N (.int i t) (.int i)
 |str{x}(t):afp x=true->VR T α N (.str x t) (.str x)
 |tup{a o vs n eF}:(a,o)∈N->a∉α->(o.cls=.type "tuple" /\o.dict=none)->o.data=.seq vs.toArray n->ah T α N vs eF->VR T α N (.ref a) (.tup eF)
 |tupK{a vs n sl eF}:T.K.lookup a=some ⟨.type "tuple",none,.seq vs.toArray n,sl⟩->ah T α N vs eF->VR T α N (.ref a) (.tup eF)
 |hl{a vs n eF}:(a,W.listOf vs.toArray n)∈N->a∉α->ah T α N vs eF->VR T α N (.ref a) (.hl eF)
 |ref{a i}:α[i]?=some a->VR T α N (.ref a) (.ref i)
 |glob (a):VR T α N (.ref a) (.glob a)
 |ty{v f k}:VR T α N v (T.θ f k)->VR T α N v (.ty f k)
 |cu{a f v self}:(a,methodObj (.ref f) v)∈N->a∉α->VR T α N v self->VR T α N (.ref a) (.cu f self)
 |bY{a o id d aK}:(a,o)∈N->a∉α->T.bY id=some d->qt α N o d aK->VR T α N (.ref a) (.bY id aK)
 |bR{v}:ah1 v=true->VR T α N v .bR
 |fk{a o C}:(a,o)∈N->a∉α->o.cls=.ref C->VR T α N (.ref a) (.fk C)
inductive ah (T:KT) (α:List aez) (N:Led):List ael->List O->Prop
 |nil:ah T α N [] []
 |cons{v av vs eF}:VR T α N v av->ah T α N vs eF->ah T α N (v::vs) (av::eF)
 |yes{v av vs eF c}:T.cond c=true->VR T α N v av->ah T α N vs eF->ah T α N (v::vs) (.may c av::eF)
 |no{av vs eF c}:T.cond c=false->ah T α N vs eF->ah T α N vs (.may c av::eF)
end
noncomputable def VI (T:KT) (α:List aez) (N:Led) (v:ael) (a:O):Prop:=O.casesOn (motive_1:=λe=>Prop) a (v=.none) (λb=>v=.bool b) (λi=>∃ t,v=.int i t) (λx=>∃ t,v=.str x t/\afp x=true)
 (λl=>(∃ a o c n,v=.ref a/\(a,o)∈N/\a∉α/\(o.cls=.type "tuple" /\o.dict=none)/\o.data=.seq c.toArray n/\ah T α N c l)\/∃ a c n g,v=.ref a/\T.K.lookup a=some ⟨.type "tuple",none,.seq c.toArray n,g⟩/\ah T α N c l)
 (λl=>∃ a c n,v=.ref a/\(a,W.listOf c.toArray n)∈N/\a∉α/\ah T α N c l) (λe e=>False) (λi=>∃ a,v=.ref a/\α[i]?=some a) (λa=>v=.ref a) (λf k=>VR T α N v (T.θ f k))
 (λf self=>∃ a u,v=.ref a/\(a,methodObj (.ref f) u)∈N/\a∉α/\VR T α N u self) (λid h=>∃ a o d,v=.ref a/\(a,o)∈N/\a∉α/\T.bY id=some d/\qt α N o d h) (ah1 v=true)
 (λC=>∃ a o,v=.ref a/\(a,o)∈N/\a∉α/\o.cls=.ref C)
theorem VR.inv(h:VR T α N v a):VI T α N v a:=by
 induction h using VR.casesOn with
 |none=>exact rfl
 |bool=>exact rfl
 |int i t=>exact ⟨t,rfl⟩
 |str t h=>exact ⟨t,rfl,h⟩
 |tup b c d e f=>exact .inl ⟨_,_,_,_,rfl,b,c,d,e,f⟩
 |tupK b c=>exact .inr ⟨_,_,_,_,rfl,b,c⟩
 |hl b c d=>exact ⟨_,_,_,rfl,b,c,d⟩
 |ref h=>exact ⟨_,rfl,h⟩
 |glob=>exact rfl
 |ty h=>exact h
 |cu b c d=>exact ⟨_,_,rfl,b,c,d⟩
 |bY b c d e=>exact ⟨_,_,_,rfl,b,c,d,e⟩
 |bR h=>exact h
 |fk b c d=>exact(p8 _ _ rfl b c d)
section
variable{T:KT}{α:List aez}{N:Led}{v:ael}
theorem VR.V3{M:∀ v,VR T α N v .none->Prop}(none:M .none .none)(h:VR T α N v .none):M v h:=by
 have e:v=.none:=h.inv;subst e;exact none
theorem VR.V4{M:∀ v,VR T α N v (.bool b)->Prop}(bool:M (.bool b) (.bool b)) (h:VR T α N v (.bool b)):M v h:=by
 have e:v=.bool b:=h.inv;subst e;exact bool
theorem VR.X1{M:∀ v,VR T α N v (.int i)->Prop}(int:∀ t,M (.int i t) (.int i t)) (h:VR T α N v (.int i)):M v h:=by
 refine aL h.inv λt e=>?_
 subst e;exact int t
theorem VR.X2{M:∀ v,VR T α N v (.str x)->Prop}(str:∀ t a,M (.str x t) (.str t a)) (h:VR T α N v (.str x)):M v h:=by
 refine Y h.inv λt e a=>?_
 subst e;exact str t a
theorem VR.X3{M:∀ v,VR T α N v (.tup l)->Prop}(tup:∀ {a o vs n}(b c d f g),M (.ref a) (.tup (o:=o) (vs:=vs) (n:=n) b c d f g)) (tupK:∀ {a vs n sl}(b c),M (.ref a) (.tupK (vs:=vs) (n:=n) (sl:=sl) b c)) (h:VR T α N v (.tup l)):M v h:=by
 obtain⟨a,o,vs,n,e,b,c,d,f,g⟩|⟨a,vs,n,sl,e,b,c⟩:=h.inv
 ·subst e;exact tup b c d f g
 ·subst e;exact tupK b c
theorem VR.xi{M:∀ v,VR T α N v (.hl l)->Prop}(hl:∀ {a vs n}(b c d),M (.ref a) (.hl (vs:=vs) (n:=n) b c d)) (h:VR T α N v (.hl l)):M v h:=by
 refine gC h.inv λa vs n e b c d=>?_
 subst e;exact hl b c d
theorem ah.X4{M:∀ vs,ah T α N vs []->Prop}(nil:M [] .nil)(h:ah T α N vs []):M vs h:=by cases h;exact nil
theorem ah.Gp{M:∀ vs a l,ah T α N vs (a::l)->Prop}(cons:∀ {v av vs e}(b d),M (v::vs) av e (.cons b d)) (yes:∀ {v av vs e c}(b d f),M (v::vs) (.may c av) e (.yes b d f)) (no:∀ {av vs e c}(b d),M vs (.may c av) e (.no b d)) (h:ah T α N vs (a::l)):M vs a l h:=by
 cases h with
 |cons b d=>exact cons b d
 |yes b d f=>exact yes b d f
 |no b d=>exact no b d
end
structure Ge (α:List aez)(N:Led)(bG:List aez)(N':Led):Prop where
 pre:α <+:bG
 keep:∀ p∈N,p.1∉α->p∈N'
 new:∀ a∈bG,a∈α\/a∉N.map (·.1)
 tab:∀ P ps,(P,afn ps)∈N->∃ pf,(P,afn pf)∈N'
theorem Ge.refl:Ge α N α N:=⟨afJ _,λa h a=>h,λa h=>.inl h,λa b h=>⟨b,h⟩⟩
theorem Ge.away (g:Ge α N a d)(b:p∈N)(c:p.1∉α):p.1∉a:=λh=>
 (g.new _ h).elim c λh=>h (aeF b)
theorem Ge.trans (g:Ge α N f i) (c:Ge f i j k):Ge α N j k:=
 ⟨g.pre.trans c.pre,λp h a=>c.keep p (g.keep p h a) (g.away h a),λa h=>by
  rcases c.new a h with b|b
  ·exact g.new a b
  ·by_cases d:a∈α
   ·exact .inl d
   ·right;intro e;refine Y (aeP.mp e) ?_;clear e;intro p l m;subst m;exact b (aeF (g.keep p l d)),λP n h=>(aL (g.tab P n h) λo b=>c.tab P o b)⟩
theorem i8.mono (g:Ge α N c d) (h:i8 α N v q):i8 c d v q:=
 (pQ (h) λe f i t j a b k=>(pR e f i t j (g.keep _ a b) (g.away a b) k))
theorem Ge.at{α N b c}(g:Ge α N b c){i:Nat}{a:aez}(h:α[i]?=some a):b[i]?=some a:=by
 refine aL g.pre ?_;clear g;intro t d;rw[←d];exact (ahW (ae4.mp h).1).trans h
theorem gj.mono{sc α N d k f j}(g:Ge α N d k) (h:gj sc α f j):gj sc d f j:=λx i e=>(cj (h x i e) λa b c l m n=>(dy a b c l m (g.at n)))
theorem qt.mono (g:Ge α N a b) (h:qt α N o d c):qt a b o d c:=
 (vn (h) λe f i j k l m n p=>(r9 e f i j k l m (n.mono g) (p.mono g)))
theorem VR.mono{K α N c d}(g:Ge α N c d){v av}(h:VR K α N v av):VR K c d v av:=
 VR.rec (motive_1:=λv av b=>VR K c d v av) (motive_2:=λf i b=>ah K c d f i) .none .bool .int .str (λh a j k b r=>.tup (g.keep _ h a) (g.away h a) j k r) (λh b r=>.tupK h r) (λh a b r=>.hl (g.keep _ h a) (g.away h a) r) (λh=>.ref (g.at h)) .glob (λb h=>.ty h) (λh a b r=>.cu (g.keep _ h a) (g.away h a) r) (λh a e r=>.bY (g.keep _ h a) (g.away h a) e (r.mono g)) .bR (λh a e=>.fk (g.keep _ h a) (g.away h a) e) .nil (λb b h r=>.cons h r) (λe b b h r=>.yes e h r) (λe b r=>.no e r) h
theorem ah.ind{P:List ael->List O->Prop}(nil:P [] []) (cons:∀ {v av vs b},VR T α N v av->ah T α N vs b->P vs b->P (v::vs) (av::b)) (yes:∀ {v av vs b c},T.cond c=true->VR T α N v av->ah T α N vs b->P vs b->P (v::vs) (.may c av::b)) (no:∀ {av vs b c},T.cond c=false->ah T α N vs b->P vs b->P vs (.may c av::b)) (h:ah T α N vs l):P vs l:=
 ah.rec (motive_1:=λa a a=>True) (motive_2:=λvs l a=>P vs l) trivial (λa=>trivial) (λa a=>trivial) (λa a=>trivial) (λa a a a a a=>trivial) (λa a a=>trivial) (λa a a a=>trivial) (λa=>trivial) (λa=>trivial) (λa a=>trivial) (λa a a a=>trivial) (λa a a a=>trivial) (λa=>trivial) (λa a a=>trivial) nil (λh r a d=>cons h r d) (λe h r a d=>yes e h r d) (λe r d=>no e r d) h
theorem ah.mono{K α N b c}(g:Ge α N b c){vs a}(h:ah K α N vs a):ah K b c vs a:=ah.ind (P:=λvs a=>ah K b c vs a) .nil (λh d r=>.cons (h.mono g) r) (λe h d r=>.yes e (h.mono g) r) (λe d r=>.no e r) h
theorem ah.le{K α N vs b}(h:ah K α N vs b):vs.length<=b.length:=ah.ind (P:=λvs b=>vs.length<=b.length) (aeD _) (λa a r=>agf r) (λa a a r=>agf r) (λa a r=>ag6 r) h
theorem ah.app{K α N vs b c d}(h:ah K α N vs b) (h':ah K α N c d):ah K α N (vs++c) (b++d):=ah.ind (P:=λvs b=>ah K α N (vs++c) (b++d)) h' (λa f r=>.cons a r) (λe a f r=>.yes e a r) (λe f r=>.no e r) h
noncomputable def O.sure:O->Bool
 |.may a b=>false
 |_=>true
noncomputable def ae1(l:List O):Bool:=l.all O.sure
theorem vB (h:ae1 (a::l)=true):ae1 l=true:=(aei.mp (h:and a.sure (ae1 l)=true)).2
theorem iu{P:Prop}(h:ae1 (.may c v::l)=true):P:=nomatch (h:false=true)
theorem ah.len{K α N vs b}(h:ah K α N vs b):ae1 b=true->vs.length=b.length:=ah.ind (P:=λvs b=>ae1 b=true->vs.length=b.length) (λa=>rfl) (λa a r p=>congrArg (·+1) (r (vB p))) (λa a a a=>iu) (λa a a=>iu) h
theorem ah.at{K α N vs c}(h:ah K α N vs c):ae1 c=true->∀ (i:Nat) (a:O),c[i]?=some a->∃ v,vs[i]?=some v/\VR K α N v a:=
 ah.ind (P:=λvs c=>ae1 c=true->∀ (i:Nat) (a:O),c[i]?=some a->∃ v,vs[i]?=some v/\VR K α N v a) (λb b b e=>nomatch e) (λh b r p i a e=>by induction i using aeI with
  |zero=>have d:=aej e;subst a;exact⟨_,rfl,h⟩
  |succ i=>exact r (vB p) i a e) (λb b b b=>iu) (λb b b=>iu) h
theorem ah.nil_inv (h:ah T α N vs []):vs=[]:=ah.X4 (M:=λvs a=>vs=[]) rfl h
theorem ah.ck (h:ah T α N vs (a::l)):a.sure=true->∃ v c,vs=v::c/\VR T α N v a/\ah T α N c l:=
 ah.Gp (M:=λvs a l b=>a.sure=true->∃ v c,vs=v::c/\VR T α N v a/\ah T α N c l) (λd f b=>(bB _ _ rfl d f)) (λb b b e=>nomatch (show false=true from e)) (λb b e=>nomatch (show false=true from e)) h
theorem ah.p9 (h:ah T α N vs (.may c a::l)):(T.cond c=true/\∃ v d,vs=v::d/\VR T α N v a/\ah T α N d l)\/(T.cond c=false/\ah T α N vs l):=
 ah.Gp (M:=λvs b l i=>b=.may c a->(T.cond c=true/\∃ v d,vs=v::d/\VR T α N v a/\ah T α N d l)\/(T.cond c=false/\ah T α N vs l)) (λf i e=>((e▸f).inv:False).elim) (λe f g q=>by cases q;exact .inl (nO e _ _ rfl f g)) (λe g q=>by cases q;exact .inr ⟨e,g⟩) h rfl
noncomputable def below (n:Nat):O->Bool:=O.rec (motive_1:=λc=>Bool) (motive_2:=λc=>Bool)
 true (λc=>true) (λc=>true) (λc=>true) (λc d=>d) (λc d=>d) (λc c d=>d) (λi=>afu i n) (λc=>true) (λc c=>true) (λc c d=>d) (λc c=>false) true (λc=>true)
 true (λc c a b=>and a b)
noncomputable def belows (n:Nat):List O->Bool:=aeL true λa c b=>and (below n a) b
theorem pS:below n (.tup l)=belows n l:=by
 show O.rec_1 (motive_1:=λb=>Bool) (motive_2:=λb=>Bool) _ _ _ _ _ _ _ _ _ _ _ _ _ _ _ _ l=_
 induction l with
 |nil=>rfl
 |cons a l c=>exact congrArg (and (below n a)) c
theorem zF:below n (.hl l)=belows n l:=pS (n:=n) (l:=l)
inductive aU (K:KT) (α:List aez) (N:Led):List (Str×ael)->List (Str×O)->Prop
 |nil:aU K α N [] []
 |cons{x v av bs abs}:VR K α N v av->aU K α N bs abs->aU K α N ((x,v)::bs) ((x,av)::abs)
theorem aU.mono{K α N a b}(g:Ge α N a b){bs abs}(h:aU K α N bs abs):aU K a b bs abs:=by
 induction h with
 |nil=>exact .nil
 |cons h d c=>exact .cons (h.mono g) c
theorem aU.nil_inv{K α N bs}(h:aU K α N bs []):bs=[]:=by cases h;rfl
theorem aU.ck{K α N bs x av abs}(h:aU K α N bs ((x,av)::abs)):∃ v a,bs=(x,v)::a/\VR K α N v av/\aU K α N a abs:=by cases h with|cons b c=>exact (bB _ _ rfl b c)
inductive bM (P:Params) (K:KT) (α:List aez) (N:Led):List DictEntry->List (Str×O)->Prop
 |nil:bM P K α N [] []
 |cons{x t v av es aes}:VR K α N v av->bM P K α N es aes->bM P K α N (⟨aiW P x,.str x t,v⟩::es) ((x,av)::aes)
theorem bM.mono{P K α N a b}(g:Ge α N a b){c aes}(h:bM P K α N c aes):bM P K a b c aes:=by
 induction h with
 |nil=>exact .nil
 |cons h e d=>exact .cons (h.mono g) d
theorem bM.nil_inv{P K α N bs}(h:bM P K α N bs []):bs=[]:=by cases h;rfl
theorem bM.ck{P K α N a x av aes}(h:bM P K α N a ((x,av)::aes)):∃ t v es',a=⟨aiW P x,.str x t,v⟩::es'/\VR K α N v av/\bM P K α N es' aes:=by cases h with|cons b c=>exact (dy _ _ _ rfl b c)
section
inductive Tr:Type where
 |em|lf(o:AO)|nd(m:Nat)(l r:Tr)
 deriving Inhabited
noncomputable def Tr.get (t:Tr) (i:Nat):Option AO:=Tr.rec (motive:=λa=>Option AO) none (λo=>some o) (λm a a b c=>aex b c (aeZ m i)) t
noncomputable def Tr.set (v:AO) (d:Nat) (t:Tr) (i:Nat):Tr:=Tr.rec (motive:=λa=>Tr) (.lf v) (λa=>.lf v) (λm l r b c=>aex (.nd m b r) (.nd m l c) (aeZ m i)) t
noncomputable def Tr.full (d:Nat):Nat->Tr:=af6 (motive:=λc=>Nat->Tr) (λc=>.em) (λd a b=>.nd (ahT b (Nat.pow (nat_lit 2) d)) (a b) (a (ahT b (Nat.pow (nat_lit 2) d)))) d
noncomputable def lK:Tr:=Tr.full (nat_lit 10) (nat_lit 0)
inductive fm:Nat->Nat->Tr->Prop
 |em{b}:fm 0 b .em
 |lf{b o}:fm 0 b (.lf o)
 |nd{d b l r}:fm d b l->fm d (b+2^d) r->fm (d+1) b (.nd (b+2^d) l r)
noncomputable def Wf(d:Nat)(t:Tr):Prop:=fm d 0 t
theorem Eh{α:Type}{x y:α}:(aex (motive:=λa=>α) x y (aeZ m i))=if m<=i then y else x:=by
 induction q:aeZ m i using aen with
 |false=>rw[if_neg λh=>by rw[ahx h]at q;exact gr q]
 |true=>rw[if_pos (aer q)]
theorem nW:(Tr.nd m l r).get i=if m<=i then r.get i else l.get i:=Eh
theorem Gq:Tr.set v d (.nd m l r) i=if m<=i then .nd m l (Tr.set v d r i) else .nd m (Tr.set v d l i) r:=Eh
theorem fm.full:∀ {d b},fm d b (Tr.full d b)
 |0,a=>.em
 |a+1,c=>.nd fm.full fm.full
theorem zG:∀ {d b i},(Tr.full d b).get i=none
 |0,a,c=>rfl
 |d+1,b,i=>by show (Tr.nd _ (Tr.full d b) (Tr.full d (b+2^d))).get i=none;rw[nW,zG,zG];split<;>rfl
theorem yp:Wf 10 lK:=fm.full
theorem fm.set (w:fm d b t):fm d b (Tr.set v e t i):=by
 induction w with
 |em=>exact .lf
 |lf=>exact .lf
 |nd a c f g=>
  rw[Gq];split
  ·exact .nd a g
  ·exact .nd f c
theorem Wf.set (h:Wf d t):Wf d (Tr.set v d t i):=fm.set h
theorem RY (w:fm d b t):b<=i->i<b+2^d->b<=j->j<b+2^d->(Tr.set v e t i).get j=if j=i then some v else t.get j:=by
 induction w with
 |em=>
  intro g a h c;have:j=i:=by simp at a c;omega
  rw[if_pos this];rfl
 |lf=>
  intro g a h c;have:j=i:=by simp at a c;omega
  rw[if_pos this];rfl
 |nd m n k l=>
  intro g a h c;rw[Nat.pow_succ]at a c;rw[Gq];split
  ·rename_i q;rw[nW,nW];split
   ·rename_i f;exact l q (by omega) f (by omega)
   ·rename_i f;rw[if_neg (by omega)]
  ·rename_i q;rw[nW,nW];split
   ·rename_i f;rw[if_neg (by omega)]
   ·rename_i f;exact k g (by omega) h (by omega)
theorem get_set (h:Wf d t) (a:i<2^d) (b:j<2^d):(Tr.set v d t i).get j=if j=i then some v else t.get j:=
 RY h (afj _) (by simpa using a) (afj _) (by simpa using b)
noncomputable def j4{c:Type}(z:c) (a:O) (f:c):c:=O.casesOn (motive_1:=λb=>c) a f (λb=>z) (λb=>z) (λb=>z) (λb=>z) (λb=>z) (λb b=>z) (λb=>z) (λb=>z) (λb b=>z) (λb b=>z) (λb b=>z) z (λb=>z)
theorem nL{b:Type}{z y₀:b}{f:b}(h:j4 z a f=y₀)(c:y₀≠z):a=.none/\f=y₀:=by induction a using O.casesOn with
 |none=>exact⟨rfl,h⟩
 |_=>exact absurd h.symm c
noncomputable def i9{c:Type}(z:c) (a:O) (f:Bool->c):c:=O.casesOn (motive_1:=λb=>c) a z f (λb=>z) (λb=>z) (λb=>z) (λb=>z) (λb b=>z) (λb=>z) (λb=>z) (λb b=>z) (λb b=>z) (λb b=>z) z (λb=>z)
theorem pT{b:Type}{z y₀:b}{f:Bool->b}(h:i9 z a f=y₀)(c:y₀≠z):∃ x,a=.bool x/\f x=y₀:=by induction a using O.casesOn with
 |bool=>exact⟨_,rfl,h⟩
 |_=>exact absurd h.symm c
noncomputable def dU{c:Type}(z:c) (a:O) (f:Int->c):c:=O.casesOn (motive_1:=λb=>c) a z (λb=>z) f (λb=>z) (λb=>z) (λb=>z) (λb b=>z) (λb=>z) (λb=>z) (λb b=>z) (λb b=>z) (λb b=>z) z (λb=>z)
theorem jU{b:Type}{z y₀:b}{f:Int->b}(h:dU z a f=y₀)(c:y₀≠z):∃ x,a=.int x/\f x=y₀:=by induction a using O.casesOn with
 |int=>exact⟨_,rfl,h⟩
 |_=>exact absurd h.symm c
noncomputable def afM{c:Type}(z:c) (a:O) (f:Str->c):c:=O.casesOn (motive_1:=λb=>c) a z (λb=>z) (λb=>z) f (λb=>z) (λb=>z) (λb b=>z) (λb=>z) (λb=>z) (λb b=>z) (λb b=>z) (λb b=>z) z (λb=>z)
theorem gD{b:Type}{z y₀:b}{f:Str->b}(h:afM z a f=y₀)(c:y₀≠z):∃ x,a=.str x/\f x=y₀:=by induction a using O.casesOn with
 |str=>exact⟨_,rfl,h⟩
 |_=>exact absurd h.symm c
noncomputable def cF{c:Type}(z:c) (a:O) (f:List O->c):c:=O.casesOn (motive_1:=λb=>c) a z (λb=>z) (λb=>z) (λb=>z) f (λb=>z) (λb b=>z) (λb=>z) (λb=>z) (λb b=>z) (λb b=>z) (λb b=>z) z (λb=>z)
theorem dP{b:Type}{z y₀:b}{f:List O->b}(h:cF z a f=y₀)(c:y₀≠z):∃ x,a=.tup x/\f x=y₀:=by induction a using O.casesOn with
 |tup=>exact⟨_,rfl,h⟩
 |_=>exact absurd h.symm c
noncomputable def lq{c:Type}(z:c) (a:O) (f:List O->c):c:=O.casesOn (motive_1:=λb=>c) a z (λb=>z) (λb=>z) (λb=>z) (λb=>z) f (λb b=>z) (λb=>z) (λb=>z) (λb b=>z) (λb b=>z) (λb b=>z) z (λb=>z)
theorem su{b:Type}{z y₀:b}{f:List O->b}(h:lq z a f=y₀)(c:y₀≠z):∃ x,a=.hl x/\f x=y₀:=by induction a using O.casesOn with
 |hl=>exact⟨_,rfl,h⟩
 |_=>exact absurd h.symm c
noncomputable def jg{c:Type}(z:c) (a:O) (f:Nat->c):c:=O.casesOn (motive_1:=λb=>c) a z (λb=>z) (λb=>z) (λb=>z) (λb=>z) (λb=>z) (λb b=>z) f (λb=>z) (λb b=>z) (λb b=>z) (λb b=>z) z (λb=>z)
theorem i3{b:Type}{z y₀:b}{f:Nat->b}(h:jg z a f=y₀)(c:y₀≠z):∃ x,a=.ref x/\f x=y₀:=by induction a using O.casesOn with
 |ref=>exact⟨_,rfl,h⟩
 |_=>exact absurd h.symm c
noncomputable def qu{c:Type}(z:c) (a:O) (f:aez->c):c:=O.casesOn (motive_1:=λb=>c) a z (λb=>z) (λb=>z) (λb=>z) (λb=>z) (λb=>z) (λb b=>z) (λb=>z) f (λb b=>z) (λb b=>z) (λb b=>z) z (λb=>z)
theorem vu{b:Type}{z y₀:b}{f:aez->b}(h:qu z a f=y₀)(c:y₀≠z):∃ x,a=.glob x/\f x=y₀:=by induction a using O.casesOn with
 |glob=>exact⟨_,rfl,h⟩
 |_=>exact absurd h.symm c
noncomputable def iK{c:Type}(z:c) (a:O) (f:Nat->Nat->c):c:=O.casesOn (motive_1:=λb=>c) a z (λb=>z) (λb=>z) (λb=>z) (λb=>z) (λb=>z) (λb b=>z) (λb=>z) (λb=>z) f (λb b=>z) (λb b=>z) z (λb=>z)
theorem jX{b:Type}{z y₀:b}{f:Nat->Nat->b}(h:iK z a f=y₀)(c:y₀≠z):∃ x y,a=.ty x y/\f x y=y₀:=by induction a using O.casesOn with
 |ty=>exact⟨_,_,rfl,h⟩
 |_=>exact absurd h.symm c
noncomputable def vW{c:Type}(z:c) (a:O) (f:aez->O->c):c:=O.casesOn (motive_1:=λb=>c) a z (λb=>z) (λb=>z) (λb=>z) (λb=>z) (λb=>z) (λb b=>z) (λb=>z) (λb=>z) (λb b=>z) f (λb b=>z) z (λb=>z)
theorem Ei{b:Type}{z y₀:b}{f:aez->O->b}(h:vW z a f=y₀)(c:y₀≠z):∃ x y,a=.cu x y/\f x y=y₀:=by induction a using O.casesOn with
 |cu=>exact⟨_,_,rfl,h⟩
 |_=>exact absurd h.symm c
noncomputable def wg{c:Type}(z:c) (a:O) (f:Nat->List (Nat×Nat)->c):c:=O.casesOn (motive_1:=λb=>c) a z (λb=>z) (λb=>z) (λb=>z) (λb=>z) (λb=>z) (λb b=>z) (λb=>z) (λb=>z) (λb b=>z) (λb b=>z) f z (λb=>z)
theorem zH{b:Type}{z y₀:b}{f:Nat->List (Nat×Nat)->b}(h:wg z a f=y₀)(c:y₀≠z):∃ x y,a=.bY x y/\f x y=y₀:=by induction a using O.casesOn with
 |bY=>exact⟨_,_,rfl,h⟩
 |_=>exact absurd h.symm c
noncomputable def Hc{c:Type}(z:c) (a:O) (f:aez->c):c:=O.casesOn (motive_1:=λb=>c) a z (λb=>z) (λb=>z) (λb=>z) (λb=>z) (λb=>z) (λb b=>z) (λb=>z) (λb=>z) (λb b=>z) (λb b=>z) (λb b=>z) z f
theorem RZ{b:Type}{z y₀:b}{f:aez->b}(h:Hc z a f=y₀)(c:y₀≠z):∃ x,a=.fk x/\f x=y₀:=by induction a using O.casesOn with
 |fk=>exact⟨_,rfl,h⟩
 |_=>exact absurd h.symm c
noncomputable def gF{c:Type}(z:c) (a:AO) (f:List O->c):c:=AO.casesOn (motive:=λb=>c) a f (λb=>z) (λb b=>z) z (λb=>z) (λb=>z) z (λb b=>z)
theorem pL{b:Type}{z y₀:b}{f:List O->b}(h:gF z a f=y₀)(c:y₀≠z):∃ x,a=.list x/\f x=y₀:=by induction a using AO.casesOn with
 |list=>exact⟨_,rfl,h⟩
 |_=>exact absurd h.symm c
noncomputable def ix{c:Type}(z:c) (a:AO) (f:List (Str×O)->c):c:=AO.casesOn (motive:=λb=>c) a (λb=>z) f (λb b=>z) z (λb=>z) (λb=>z) z (λb b=>z)
theorem l7{b:Type}{z y₀:b}{f:List (Str×O)->b}(h:ix z a f=y₀)(c:y₀≠z):∃ x,a=.dict x/\f x=y₀:=by induction a using AO.casesOn with
 |dict=>exact⟨_,rfl,h⟩
 |_=>exact absurd h.symm c
noncomputable def mj{c:Type}(z:c) (a:AO) (f:aez->List (Str×O)->c):c:=AO.casesOn (motive:=λb=>c) a (λb=>z) (λb=>z) f z (λb=>z) (λb=>z) z (λb b=>z)
theorem Ej{b:Type}{z y₀:b}{f:aez->List (Str×O)->b}(h:mj z a f=y₀)(c:y₀≠z):∃ x y,a=.obj x y/\f x y=y₀:=by induction a using AO.casesOn with
 |obj=>exact⟨_,_,rfl,h⟩
 |_=>exact absurd h.symm c
noncomputable def Al{c:Type}(z:c) (a:AO) (f:c):c:=AO.casesOn (motive:=λb=>c) a (λb=>z) (λb=>z) (λb b=>z) f (λb=>z) (λb=>z) z (λb b=>z)
theorem QJ{b:Type}{z y₀:b}{f:b}(h:Al z a f=y₀)(c:y₀≠z):a=.own/\f=y₀:=by induction a using AO.casesOn with
 |own=>exact⟨rfl,h⟩
 |_=>exact absurd h.symm c
noncomputable def qn{c:Type}(z:c) (a:AO) (f:Option O->c):c:=AO.casesOn (motive:=λb=>c) a (λb=>z) (λb=>z) (λb b=>z) z f (λb=>z) z (λb b=>z)
theorem vp{b:Type}{z y₀:b}{f:Option O->b}(h:qn z a f=y₀)(c:y₀≠z):∃ x,a=.cell x/\f x=y₀:=by induction a using AO.casesOn with
 |cell=>exact⟨_,rfl,h⟩
 |_=>exact absurd h.symm c
noncomputable def sF{c:Type}(z:c) (a:AO) (f:Nat->c):c:=AO.casesOn (motive:=λb=>c) a (λb=>z) (λb=>z) (λb b=>z) z (λb=>z) f z (λb b=>z)
theorem vv{b:Type}{z y₀:b}{f:Nat->b}(h:sF z a f=y₀)(c:y₀≠z):∃ x,a=.src x/\f x=y₀:=by induction a using AO.casesOn with
 |src=>exact⟨_,rfl,h⟩
 |_=>exact absurd h.symm c
noncomputable def Gr{c:Type}(z:c) (a:AO) (f:Nat->Str->c):c:=AO.casesOn (motive:=λb=>c) a (λb=>z) (λb=>z) (λb b=>z) z (λb=>z) (λb=>z) z f
theorem QK{b:Type}{z y₀:b}{f:Nat->Str->b}(h:Gr z a f=y₀)(c:y₀≠z):∃ x y,a=.tab x y/\f x y=y₀:=by induction a using AO.casesOn with
 |tab=>exact⟨_,_,rfl,h⟩
 |_=>exact absurd h.symm c
noncomputable def aD{a b:Type}(z:a)(o:Option b)(f:b->a):a:=ae2 z f o
theorem aR{a b:Type}{z y₀:a}{o:Option b}{f:b->a}(h:aD z o f=y₀)(c:y₀≠z):∃ x,o=some x/\f x=y₀:=by induction o using aeB with
 |some=>exact⟨_,rfl,h⟩
 |none=>exact absurd h.symm c
noncomputable def Bm{a b:Type}(z:a) (o:Option b) (x:a):a:=ae2 x (λc=>z) o
theorem Fv{a b:Type}{z y₀ x:a}{o:Option b}(h:Bm z o x=y₀)(c:y₀≠z):o=none/\x=y₀:=by induction o using aeB with
 |none=>exact⟨rfl,h⟩
 |some=>exact absurd h.symm c
noncomputable def rz{a:Type}(z:a)(b:Bool)(x:a):a:=aex x z b
theorem sG{a:Type}{z y₀:a}{x:a}(h:rz z b x=y₀)(c:y₀≠z):b=false/\x=y₀:=by induction b using aen with
 |false=>exact⟨rfl,h⟩
 |true=>exact absurd h.symm c
noncomputable def aN{a:Type}(z:a)(b:Bool)(x:a):a:=aex z x b
theorem aS{a:Type}{z y₀:a}{x:a}(h:aN z b x=y₀)(c:y₀≠z):b=true/\x=y₀:=by induction b using aen with
 |true=>exact⟨rfl,h⟩
 |false=>exact absurd h.symm c
noncomputable def d0{b:Type}(z:b) (st:Tr) (a:O) (f:Nat->AO->b):b:=jg z a λi=>aD z (st.get i) (f i)
theorem l9{b:Type}{z y₀:b}{f:List O->b}(h:cF z a f=y₀):z=y₀\/∃ x,a=.tup x/\f x=y₀:=by
 by_cases c:y₀=z
 ·exact .inl c.symm
 ·exact .inr (dP h c)
theorem vL{b:Type}{z y₀:b}{f:List O->b}(h:lq z a f=y₀):z=y₀\/∃ x,a=.hl x/\f x=y₀:=by
 by_cases c:y₀=z
 ·exact .inl c.symm
 ·exact .inr (su h c)
theorem EM{b:Type}{z y₀:b}{f:Str->b}(h:afM z a f=y₀):z=y₀\/∃ x,a=.str x/\f x=y₀:=by
 by_cases c:y₀=z
 ·exact .inl c.symm
 ·exact .inr (gD h c)
theorem EN{b:Type}{z y₀:b}{f:Int->b}(h:dU z a f=y₀):z=y₀\/∃ x,a=.int x/\f x=y₀:=by
 by_cases c:y₀=z
 ·exact .inl c.symm
 ·exact .inr (jU h c)
theorem P8{b:Type}{z y₀:b}{f:List O->b}(h:gF z a f=y₀):z=y₀\/∃ x,a=.list x/\f x=y₀:=by
 by_cases c:y₀=z
 ·exact .inl c.symm
 ·exact .inr (pL h c)
noncomputable def ew{c:Type}(a:O) (x:Nat->O->c) (y:c):c:=O.casesOn (motive_1:=λb=>c) a y (λb=>y) (λb=>y) (λb=>y) (λb=>y) (λb=>y) x (λb=>y) (λb=>y) (λb b=>y) (λb b=>y) (λb b=>y) y (λb=>y)
noncomputable def sH(a:O):Prop:=∀ {b:Type}(x:Nat->O->b)(y:b),ew a x y=y
theorem fD(a:O):(∃ c v,a=.may c v)\/sH a:=by induction a using O.casesOn with
 |may c v=>exact .inl ⟨c,v,rfl⟩
 |_=>exact .inr λb b=>rfl
inductive Vw where
 |sc(d:afs)|tup(l:List O)|lst(l:List O)|tok(f k:Nat)|bad
noncomputable def yq (o:AO):Vw:=AO.casesOn (motive:=λa=>Vw) o .lst (λa=>.bad) (λa a=>.bad) .bad (λa=>.bad) (λa=>.bad) .bad (λa a=>.bad)
noncomputable def vw (st:Tr) (a:O):Vw:=O.casesOn (motive_1:=λc=>Vw) a (.sc .none) (λb=>.sc (.bool b)) (λi=>.sc (.int i)) (λx=>.sc (.str x)) .tup .lst (λc c=>.bad) (λi=>ae2 .bad yq (st.get i))
 (λc=>.bad) .tok (λc c=>.bad) (λc c=>.bad) .bad (λc=>.bad)
noncomputable def gK{a:Type}(o:Option a) (r:Option (List a)):Option (List a):=ae2 none (λd=>ae2 none (λb=>some (d::b)) r) o
noncomputable def dL (T:KT) (b:O->Option afs):List O->Option (List afs):=aeL (some []) λa d r=>ew a (λc v=>aex r (gK (b v) r) (T.cond c)) (gK (b a) r)
noncomputable def gP (f:List afs->afs) (o:Option (List afs)):Option PyData:=ae2 none (λa=>some (f a)) o
noncomputable def iD (T:KT) (D:O->Option afs) (v:Vw):Option PyData:=Vw.casesOn v some (λl=>gP .tuple (dL T D l)) (λl=>gP .list (dL T D l)) (λf k=>D (T.θ f k)) none
noncomputable def toD (T:KT) (st:Tr):Nat->O->Option PyData:=af6 (λb=>none) λb c a=>iD T c (vw st a)
noncomputable def DR(T:KT)(st:Tr)(n:Nat)(a:O)(d:afs):Prop:=toD T st n a=some d
noncomputable def pg (T:KT) (st:Tr) (n:Nat) (l:List O) (a:List afs):Prop:=dL T (toD T st n) l=some a
noncomputable def jh (T:KT):Prop:=∀ f k st,∃ d,DR T st 20 (T.θ f k) d
structure LS where
 loc:List (Nat×O)
 aK:List (Nat×Nat)
 st:Tr
 n:Nat
 lo:Nat
 mark:List Nat
inductive Rs:Type where
 |ok(v:O)|exc(C:aez)|no
noncomputable abbrev Kv:=O->LS->Rs
noncomputable abbrev Ev:=LS->Kv->Rs
noncomputable abbrev Tc:=LS->(Bool->LS->Rs)->Rs
noncomputable abbrev ec:=LS->(List O->LS->Rs)->Rs
noncomputable abbrev Sc:=LS->(LS->Rs)->Kv->Rs
noncomputable abbrev Call:=O->List O->Ev
noncomputable def LS.push (σ:LS) (o:AO):LS:=LS.rec (motive:=λa=>LS) (λl c t n lo m=>⟨l,c,Tr.set o (nat_lit 10) t n,afk n,lo,m⟩) σ
noncomputable def jn (a b:Nat):Nat:=aex b a (aeZ a b)
theorem ja:jn a b<=a:=by
 unfold jn;induction q:aeZ a b using aen with
 |false=>exact Nat.le_of_not_le λh=>by rw[ahx h]at q;exact gr q
 |true=>exact aeD _
theorem iz:jn a b<=b:=by
 unfold jn;induction q:aeZ a b using aen with
 |false=>exact aeD _
 |true=>exact aer q
noncomputable def LS.tM (σ:LS) (i:Nat) (o:AO):LS:=LS.rec (motive:=λa=>LS) (λl c t n lo m=>⟨l,c,Tr.set o (nat_lit 10) t i,n,jn (ago i) lo,m⟩) σ
noncomputable def LS.put (σ:LS) (i:Nat) (o:AO):LS:=LS.rec (motive:=λa=>LS) (λl c t n lo m=>⟨l,c,Tr.set o (nat_lit 10) t i,n,jn i lo,m⟩) σ
noncomputable def bD:Nat:=nat_lit 1024
noncomputable def LS.room (σ:LS):Bool:=aeZ (afk σ.n) bD
structure aJ where
 params:List Str
 di:List O
 body:List afD
 scope:afC
 code:Option (aez×Str)
structure Gl where
 name:Str->Option O
 boot:Str->Bool
 fn:aez->Option aJ
 cu:aez->Str->Option aez
 attr:aez->Str->Bool
 init:aez->Option aez
structure Wd where
 prog:ae9
 w:afq
 kt:KT
 G:Gl
 os:afw
noncomputable abbrev Wd.K(W:Wd):Frag:=W.kt.K
inductive OR (W:Wd) (α:List aez) (N:Led) (i:Nat):Obj->AO->Prop
 |list{vs n eF}:ah W.kt α N vs eF->OR W α N i (aeG vs.toArray n) (.list eF)
 |dict{o kvs aes}:o.IsDictOf (afb W.prog W.w) kvs->aU W.kt α N kvs aes->OR W α N i o (.dict aes)
 |obj{j C d es n aes}:i=j+1->α[j]?=some d->(d,afY es n)∈N->bM W.w.params W.kt α N es aes->OR W α N i (ahy C d) (.obj C aes)
 |own{o}:OR W α N i o .own
 |cell{o v av}:o.data=.cell (some v)->VR W.kt α N v av->OR W α N i o (.cell (some av))
 |mq{o}:o.data=.cell none->OR W α N i o (.cell none)
 |src{a b t u n k}:0<=b->b<2147483648->OR W α N i (aeG #[.int a t,.int b u] n) (.src k)
 |any{o}:OR W α N i o .any
 |tab{P:aez}{ps q}:α[i]?=some P->ai7 ps.toList->(∀ pos cv,ahE pos ps.toList=some cv->i8 α N cv q)->OR W α N i (afn ps) (.tab P q)
noncomputable def OI (W:Wd) (α:List aez) (N:Led) (i:Nat) (b:Obj) (o:AO):Prop:=AO.casesOn (motive:=λm=>Prop) o (λl=>∃ f n,b=aeG (aju f) n/\ah W.kt α N f l) (λl=>∃ g,b.IsDictOf (afb W.prog W.w) g/\aU W.kt α N g l)
 (λC l=>∃ j d h n,b=ahy C d/\i=j+1/\α[j]?=some d/\(d,afY h n)∈N/\bM W.w.params W.kt α N h l) True (λv=>ae2 (b.data=.cell none) (λa=>∃ u,b.data=.cell (some u)/\VR W.kt α N u a) v)
 (λm=>∃ a c t u n,b=aeG #[.int a t,.int c u] n/\0<=c/\c<2147483648) True (λP q=>∃ e,b=afn e/\α[i]?=some P/\ai7 e.toList/\∀ p k,ahE p e.toList=some k->i8 α N k q)
theorem OR.inv(h:OR W α N i b o):OI W α N i b o:=by
 induction h using OR.casesOn with
 |list h=>exact⟨_,_,rfl,h⟩
 |dict a c=>exact⟨_,a,c⟩
 |obj a c d e=>exact⟨_,_,_,_,rfl,a,c,d,e⟩
 |own=>exact trivial
 |cell a c=>exact⟨_,a,c⟩
 |mq h=>exact h
 |src a c=>exact⟨_,_,_,_,_,rfl,a,c⟩
 |any=>exact trivial
 |tab a c d=>exact(nU _ rfl a c d)
theorem OR.R0 (h:OR W α N i b (.cell v)):∃ a,b.data=.cell a:=by
 have q:=h.inv;induction v using aeB with
 |none=>exact⟨_,q⟩
 |some=>refine Y q ?_;clear q;intro u q c;exact⟨_,q⟩
section
variable{W:Wd}{α:List aez}{N:Led}{i:Nat}
end
structure Cx (W:Wd)where
 A₀:ae6
 base:afm
 outer:List Env
 h₀:afm
 L:aez
 bF:Env
 env:Env
 comp:Option (aez×(Str->Option ael))
 ax:Led
noncomputable abbrev Cx.scope(c:Cx W):Scope:=c.env.scope
variable{W:Wd}
noncomputable def el (W:Wd)(sc:afC)(loc:List (Nat×O))(α:List aez)(N:Led)(m:Str->Option ael):Prop:=∀ n v,lk n loc=some v->∃ x k val,sc.names[n]?=some (x,k)/\m x=some val/\VR W.kt α N val v
noncomputable def NR (c:Cx W)(loc:List (Nat×O))(α:List aez)(N:Led)(m:Str->Option ael):Prop:=match c.comp with
 |none=>el W c.scope loc α N m
 |some (C,b)=>m=b/\∃ o a,(C,o)∈c.ax/\ahn o a/\el W c.scope loc α N a
theorem el.mono (g:Ge α N c d) (h:el W sc loc α N m):el W sc loc c d m:=λx v e=>(cj (h x v e) λa b val f i j=>(dy a b val f i (j.mono g)))
theorem NR.mono (g:Ge α N a b)(h:NR c loc α N m):NR c loc a b m:=by
 unfold NR at h ⊢;split at h
 ·exact h.mono g
 ·refine kN h ?_;clear h;intro e o W d f i;exact (nO e o W d f (i.mono g))
structure SR (c:Cx W)(σ:LS)(s:aep)(α:List aez)(N:Led):Prop where
 fr:∃ m,Fr c.h₀ c.L s.heap m/\NR c σ.loc α N m
 aK:gj c.scope α σ.aK c.env.cells
 news:agM c.h₀ c.L s.heap (N++c.ax)
 nodup:((N++c.ax).map (·.1)).Nodup
 inj:α.Nodup
 obj:∀ (i:Nat)(o:AO),i<σ.n->σ.st.get i=some o->∃ a b,α[i]?=some a/\(a,b)∈N/\OR W α N i b o
 all:∀ a∈α,a∈N.map (·.1)
 hi:∀ p∈N++c.ax,(p.1 ==af1)=false
 wf:Wf 10 σ.st
 bD:σ.n<=1024
 len:α.length=σ.n
 low:σ.lo<=σ.n
 bt:∀ i∈σ.mark,i<σ.n
 gens:s.gens=#[]
 os:s.os=W.os
 aZ:W.K.In s.heap
noncomputable def AO.sZ:AO->Bool
 |.tab a b=>true
 |.src a=>true
 |_=>false
structure Sts(σ:LS)(α:List aez)(N:Led)(bu:LS)(bG:List aez)(N':Led):Prop where
 ge:Ge α N bG N'
 lo:bu.lo<=σ.lo
 same:∀ i,i<bu.lo->bu.st.get i=σ.st.get i
 n:σ.n<=bu.n
 mark:bu.mark=σ.mark
 obs:∀ i a o,i<bu.lo->α[i]?=some a->(a,o)∈N->(∀ b,AO.sZ b=true->σ.st.get i≠some b)->(a,o)∈N'
 bf:∀ i,i∈σ.mark->bu.st.get i=σ.st.get i/\∀ a o,α[i]?=some a->(a,o)∈N->(a,o)∈N'
structure bh(σ:LS)(α:List aez)(N:Led)(bu:LS)(bG:List aez)(N':Led):Prop extends Sts σ α N bu bG N' where
 loc:bu.loc=σ.loc
theorem Sts.refl:Sts σ α N σ α N:=⟨.refl,aeD _,λW W=>rfl,aeD _,rfl,λW W W W W h W=>h,λW W=>⟨rfl,λW W W h=>h⟩⟩
theorem Sts.trans (g:Sts σ α N f j k) (c:Sts f j k l m p):Sts σ α N l m p:=
 ⟨g.ge.trans c.ge,aeE c.lo g.lo,λi h=>(c.same i h).trans (g.same i (aet h c.lo)),aeE g.n c.n,c.mark.trans g.mark,λi a o W d e nt=>c.obs i a o W (g.ge.at d) (g.obs i a o (aet W c.lo) d e nt) (λb q=>by rw[g.same i (aet W c.lo)];exact nt b q),λi W=>⟨(c.bf i (g.mark▸W)).1.trans (g.bf i W).1,λa o d e=>(c.bf i (g.mark▸W)).2 a o (g.ge.at d) ((g.bf i W).2 a o d e)⟩⟩
theorem bh.refl:bh σ α N σ α N:=⟨.refl,rfl⟩
theorem bh.trans(g:bh σ α N b c d)(a:bh b c d e f h):bh σ α N e f h:=⟨g.toSts.trans a.toSts,a.loc.trans g.loc⟩
theorem bh.Bn(g:bh σ α N a b c)(d:Sts a b c e f h):Sts σ α N e f h:=g.toSts.trans d
noncomputable def mr (fd:aJ)(vals:List O):Option (List (Str×O)):=
 if vals.length<=fd.params.length/\fd.params.length<=vals.length+fd.di.length then some (fd.params.zip (vals++fd.di.drop (fd.di.length-(fd.params.length-vals.length))))
 else none
noncomputable def Fw (W:Wd)(F:ahG)(fd:aJ):Prop:=
 ∀ (c:List ael)(a:List O)(b:List (Str×O))d N,ah W.kt d N c a->ae1 a=true->mr fd a=some b->∃ e,aU W.kt d N e b/\∀ s:aep,W.K.In s.heap->BindsTo s F ⟨c,[]⟩ e
inductive X5 (W:Wd) (a:aez) (fd:aJ) (qual:Str) (dD:ael):Prop
 |mk (name params dV kV doc pm ct oc an od km) (ho:W.K.lookup a=some ⟨oc,od,.func (fnOf name qual params fd.body fd.scope dV kV doc pm an dD ct),km⟩) (hb:Fw W (fnOf name qual params fd.body fd.scope dV kV doc pm an dD ct) fd)
structure tO (W:Wd)(a:aez)(fd:aJ)(qual:Str)(dD:ael):Prop where
 at_:X5 W a fd qual dD
 code:codeIn W.K dD qual=true
 cd:∀ x,fd.code=some x->dD=.ref x.1/\(qual++".<locals>." :Str)=x.2
 loc:∀ x∈fd.params,fd.scope.names.lookup x=some .local\/fd.scope.names.lookup x=some .cell
 co:fd.scope.isCoroutine=false
 gen:fd.scope.isGenerator=false
 kind:fd.scope.kind=.function
 cell:((afO 0 fd.scope.names []).map (·.1)).Nodup
 cW:(fd.scope.names.map (·.1)).Nodup
structure Cw (W:Wd):Prop where
 tok:jh W.kt
 tb:∀ n,∃ b,W.kt.θ 7 n=.bool b
 Bo:∀ f k n,below n (W.kt.θ f k)=true
 Nb:∀ k,∃ a r,W.kt.θ 0 k=.tup (a::.int 0::r)/\a.sure=true
 reg:∀ k,∃ l:List Str,W.kt.θ 2 k=.hl (l.map .str)
 sk:∀ k,∃ x,W.kt.θ 5 k=.str x
 name:∀ x v,W.G.name x=some v->∀ α N,∃ val,nsIn W.K afa x=some (some val)/\VR W.kt α N val v
 boot:∀ x,W.G.boot x=true->nsIn W.K afa x=some none/\x≠ "__name__"
 fn:∀ a fd,W.G.fn a=some fd->∃ qual dD,tO W a fd qual dD
 keep:∀ a,(W.G.fn a).isSome=true\/(W.G.init a).isSome=true->keepIn W.K (.ref a)=true
 cu:∀ C name f,W.G.cu C name=some f->ajv W.K C name=true/\ags W.K (.ref C) name=some (some (.ref f))/\isFn W.K (.ref f)=true/\(W.G.fn f).isSome=true
 attr:∀ C name,W.G.attr C name=true->ajv W.K C name=true/\hasDictIn W.K C=true/\(∃ attr,ags W.K (.ref C) name=some attr/\noGet W.K attr=true)/\ ags W.K (.ref C) "__setattr__" =some (some (.builtin "object.__setattr__"))/\plainOver W.K C=true/\takerIn W.K C name=some none
 init:∀ C f,W.G.init C=some f->makesIn W.K C=true/\ags W.K (.ref C) "__init__" =some (some (.ref f))/\isFn W.K (.ref f)=true
structure lr(W:Wd)(p:ae9)(loose:List Str)(mg mb:Str->Option ael)(h:afm):Prop extends TopRead p loose mg mb h where
 seer:h.NoSeer
 tree:W.prog.given.tree=none
theorem lr.keeps{a c:Str->Option ael}(T:lr W p e a c h)(d:∀ b o,h.get? b=some o->h'.get? b=some o):lr W p e a c h':=⟨T.toTopRead.keeps d,T.seer.keeps d,T.tree⟩
structure ak (c:Cx W):Prop where
 g:Cw W
 aZ:W.K.In c.h₀
 lim:c.h₀.NoLimit
 below:Below c.A₀ c.base c.outer c.h₀
 kind:c.scope.kind=.function
 kZ:c.bF.scope.kind=.function
 frame:c.bF.frame=some c.L
 iE:c.env.globals=afa
 qC:c.env.builtins=agP
 locs:match c.comp with
  |none=>c.env.locals=c.L
  |some (C,Cy)=>c.env.locals=C
 top:∃ p loose mg mb,lr W p loose mg mb c.h₀
 cW:(c.scope.names.map (·.1)).Nodup
 k7:W.K.In c.base
 ls:∃ p loose mg mb,lr W p loose mg mb c.base
 mU:c.base.NoLimit
 uz:c.comp=none->c.env=c.bF
 cin:∀ C mf,c.comp=some (C,mf)->∃ o,(C,o)∈c.ax
 nq:∀ p∈W.kt.src,c.base.IsList p.1 p.2.toArray
structure aP (c:Cx W)(d:Nat)(A:ae6):Prop where
 frames:A.frames=some (c.bF::c.outer)
 depth:A.depth+16*d<=890
 units:A.units+80*d<=9000
 handled:A.handled=none
noncomputable def ph (c:Cx W):List Addr:=(c.bF::c.outer).filterMap (·.frame)
noncomputable def X6(B:afm)(l:List Env)(L:aez)(a:aez)(cls:ael)(h:afm):Prop:=
 B.StaysIn h/\B.get? a=none/\h.FunFrames B l/\ ((∃ W b c,h.get? a=some W/\W.cls=cls/\W.data=.fields b/\b[0]?=some c/\b[1]?=some .none)\/∃ c d,h.TracedAtW B a cls c d/\(d=.none\/d=aff L))
noncomputable def AM (c:Cx W)(α:List aez)(N:Led):Prop:=(N.map (·.1)).Nodup/\(∀ p∈N,(p.1 ==af1)=false/\p.1∉c.ax.map (·.1))/\∀ a∈α,a∈N.map (·.1)
inductive XR (c:Cx W) (C:aez) (e:ael) (σ:LS) (s:aep) (α:List aez) (N:Led):Prop
 |mk (gl:s.gens=#[]/\AM c α N) (os:s.os=W.os) (a:aez) (B G:afm) (m:Str->Option ael) (ea:e=.ref a) (h1:c.base.StaysIn B) (h2:Fr c.h₀ c.L G m) (h3:NR c σ.loc α N m) (h4:∀ b o,G.get? b=some o->b∉ph c->B.get? b=some o) (h5:∀ q∈N++c.ax,B.get? q.1=some q.2/\c.h₀.get? q.1=none/\q.1≠c.L) (h6:G.UpToSlots s.heap) (fl:X6 B (c.bF::c.outer) c.L a (.ref C) s.heap)
theorem XR.same(x:XR c C e σ s α N)(q:σ.loc=b.loc):XR c C e b s α N:=by
 obtain⟨W,os,a,B,G,m,d,f,g,h,i,j,k,l⟩:=x;exact⟨W,os,a,B,G,m,d,f,g,q▸h,i,j,k,l⟩
structure Kp(σ:LS)(α:List aez)(N:Led)(bu:LS)(bG:List aez)(N':Led):Prop where
 ge:Ge α N bG N'
 mark:bu.mark=σ.mark
 bf:∀ i,i∈σ.mark->∀ a o,α[i]?=some a->(a,o)∈N->(a,o)∈N'
theorem Kp.trans (g:Kp σ α N d e f) (b:Kp d e f h j k):Kp σ α N h j k:=
 ⟨g.ge.trans b.ge,b.mark.trans g.mark,λi W a o c l=>b.bf i (g.mark▸W) a o (g.ge.at c) (g.bf i W a o c l)⟩
theorem Sts.kp(g:Sts σ α N a b c):Kp σ α N a b c:=⟨g.ge,g.mark,λi W=>(g.bf i W).2⟩
theorem bh.kp(g:bh σ α N a b c):Kp σ α N a b c:=g.toSts.kp
noncomputable def bS(c:Cx W)(y:Rs)(σ:LS)(α:List aez)(N:Led)(E:ael->aep->Prop):Prop:=
 ∀ C e a b d f,y=.exc C->Kp σ α N a d f->XR c C e a b d f->E e b
theorem bS.step (h:bS c y σ α N E) (g:Kp σ α N a b d):bS c y a b d E:=
 λC e W f i j k m x=>h C e W f i j k (g.trans m) x
noncomputable def jo(c:Cx W)(y:Rs)(σ:LS)(α:List aez)(N:Led)(E:ael->aep->Prop):Prop:=
 ∀ C e a b d f,y=.exc C->Kp σ α N a d f->a.loc=σ.loc->XR c C e a b d f->E e b
theorem bS.l(h:bS c y σ α N E):jo c y σ α N E:=λC e W a b d f g i x=>h C e W a b d f g x
theorem jo.step (h:jo c y σ α N E) (g:Kp σ α N a b d) (f:a.loc=σ.loc):jo c y a b d E:=
 λC e W i j k m n l x=>h C e W i j k m (g.trans n) (l.trans f) x
noncomputable abbrev WP (W:Wd) (A:ae6){a:Type}(m:Sem a) (Q:a->aep->Prop) (E:ael->aep->Prop) (s:aep):Prop:=aeO (aeR W.prog W.w) A m Q E s
noncomputable def fZ(c:Cx W)(y:Rs)(σ:LS)(α:List aez)(N:Led)(k:Kv)(Q:ael->aep->Prop):Prop:=
 ∀ a b v f d e,k a b=y->SR c b f d e->bh σ α N b d e->VR W.kt d e v a->Q v f
theorem fZ.step (h:fZ c y σ α N k Q) (g:bh σ α N b d f):fZ c y b d f k Q:=
 λa W v i j l e R m n=>h a W v i j l e R (g.trans m) n
noncomputable def rA(c:Cx W)(y:Rs)(σ:LS)(α:List aez)(N:Led)(k:Bool->LS->Rs)(Q:Bool->aep->Prop):Prop:=
 ∀ b a d e f,k b a=y->SR c a d e f->bh σ α N a e f->Q b d
theorem rA.step (h:rA c y σ α N k Q)(g:bh σ α N b d f):rA c y b d f k Q:=
 λa W i j l e R m=>h a W i j l e R (g.trans m)
noncomputable def abt(c:Cx W)(y:Rs)(σ:LS)(α:List aez)(N:Led)(k:List O->LS->Rs)(Q:List ael->aep->Prop):Prop:=
 ∀ l a e f b d,k l a=y->SR c a f b d->bh σ α N a b d->ah W.kt b d e l->ae1 l=true->Q e f
noncomputable def gs(c:Cx W)(y:Rs)(σ:LS)(α:List aez)(N:Led)(kn:LS->Rs)(Q:Flow->aep->Prop):Prop:=
 ∀ a b d e,kn a=y->SR c a b d e->Sts σ α N a d e->Q .next b
theorem gs.step (h:gs c y σ α N k Q)(g:Sts σ α N a b d):gs c y a b d k Q:=
 λW f i j e R l=>h W f i j e R (g.trans l)
noncomputable def gu (c:Cx W) (y:Rs) (σ:LS) (α:List aez) (N:Led) (kr:Kv) (Q:Flow->aep->Prop):Prop:=
 ∀ a b v f d e,kr a b=y->SR c b f d e->Sts σ α N b d e->VR W.kt d e v a->Q (.ret v) f
theorem gu.step (h:gu c y σ α N k Q) (g:Sts σ α N b d f):gu c y b d f k Q:=
 λa W v i j l e R m n=>h a W v i j l e R (g.trans m) n
noncomputable def aE (c:Cx W) (A:ae6) (e:aeM) (code:Ev):Prop:=∀ a k y,code a k=y->y≠.no->∀ s b N E,SR c a s b N->bS c y a b N E->∀ Q,fZ c y a b N k Q->WP W A (eval e c.env) Q E s
noncomputable def dB (c:Cx W) (A:ae6) (e:aeM) (code:Tc):Prop:=∀ a k y,code a k=y->y≠.no->∀ s b N E,SR c a s b N->bS c y a b N E->∀ Q,rA c y a b N k Q->WP W A (isTrue e c.env (eval e c.env)) Q E s
noncomputable def gL (c:Cx W) (A:ae6) (d:List aeM) (code:ec):Prop:=∀ a k y,code a k=y->y≠.no->∀ s b N E,SR c a s b N->bS c y a b N E->∀ (e:Pos) Q,abt c y a b N k Q->WP W A (spliced (ah2 e (agN d c.env))) Q E s
noncomputable def bQ (c:Cx W) (A:ae6) (st:afD) (code:Sc):Prop:=∀ a kn d y,code a kn d=y->y≠.no->∀ s b N E,SR c a s b N->bS c y a b N E->∀ Q,gs c y a b N kn Q->gu c y a b N d Q->WP W A (exec st c.env) Q E s
noncomputable def cA (c:Cx W) (A:ae6) (e:List afD) (code:Sc):Prop:=∀ a kn d y,code a kn d=y->y≠.no->∀ s b N E,SR c a s b N->bS c y a b N E->∀ Q,gs c y a b N kn Q->gu c y a b N d Q->WP W A (aho e c.env) Q E s
noncomputable def jb (c:Cx W) (A:ae6) (call:Call):Prop:=∀ f d b k y,call f d b k=y->y≠.no->∀ s a N E,SR c b s a N->jo c y b a N E->∀ e g,VR W.kt a N e f->ah W.kt a N g d->ae1 d=true->∀ Q,fZ c y b a N k Q->WP W A (afl e g) Q E s
noncomputable def dw(W:Wd)(d:Nat)(call:Call):Prop:=∀ (c:Cx W)(A:ae6),ak c->aP c d A->jb c A call
end
section
variable{W:Wd}{c:Cx W}{A:ae6}{d:Nat}{σ bu:LS}{s:aep}{α:List aez}{N:Led}
theorem SR.toks(R:SR c σ s α N):SR c σ {s with toks:=t} α N:=⟨R.fr,R.aK,R.news,R.nodup,R.inj,R.obj,R.all,R.hi,R.wf,R.bD,R.len,R.low,R.bt,R.gens,R.os,R.aZ⟩
theorem OR.wh (g:Ge α N b a) (f:(∃ C k,ao=.obj C k)->∀ j d o,α[j]?=some d->(d,o)∈N->i=j+1->(d,o)∈a) (h:OR W α N i o ao):OR W b a i o ao:=by
 induction h using OR.casesOn with
 |list r=>exact .list (r.mono g)
 |dict e r=>exact .dict e (r.mono g)
 |obj e h m r=>exact .obj e (g.at h) (f (LB _ _ rfl) _ _ _ h m e) (r.mono g)
 |own=>exact .own
 |cell e h=>exact .cell e (h.mono g)
 |mq e=>exact .mq e
 |src c s=>exact .src c s
 |any=>exact .any
 |tab A c s=>exact .tab (g.at A) c λl n e=>(s l n e).mono g
theorem OR.mono(g:Ge α N b a)(e:∀ j d o,α[j]?=some d->(d,o)∈N->i=j+1->(d,o)∈a)(h:OR W α N i o ao):OR W b a i o ao:=h.wh g λc=>e
theorem zI{l:List (Str×afv)}(b:(l.map (·.1)).Nodup):∀ {i j:Nat}{x k a},l[i]?=some (x,k)->l[j]?=some (x,a)->i=j:=by
 induction l with
 |nil=>exact λh=>nomatch h
 |cons p l A=> intro i j x k a c d;refine ae (ae3.mp b) ?_;clear b;intro s N;induction i using aeI with
  |zero=>induction j using aeI with
   |zero=>rfl
   |succ j=>have W:=aej c;subst p;exact absurd (aeP.mpr (ay _ (aeV (show l[j]?=some (x,a) from d)) rfl)) s
  |succ i=>induction j using aeI with
   |zero=>have W:=aej d;subst p;exact absurd (aeP.mpr (ay _ (aeV (show l[i]?=some (x,k) from c)) rfl)) s
   |succ j=>exact congrArg (·+1) (A N c d)
theorem SR.get (R:SR c σ s α N)(h:(a,o)∈N):s.heap.get? a=some o:=R.news.get (aeo _ h)
theorem SR.Am (R:SR c σ s α N):s.heap.objs.size∉(N++c.ax).map (·.1):=λd=>by
 refine Y (aeP.mp d) ?_;clear d;intro p A e;have:=aeS (R.news _ A).1;rw[e]at this;exact afG _ this
theorem SR.fresh (R:SR c σ s α N):s.heap.objs.size∉N.map (·.1):=λh=>R.Am (by rw[aeX];exact aeo _ h)
theorem SR.Nc (R:SR c σ s α N):(N.map (·.1)).Nodup:=by
 have h:=R.nodup;rw[aeX]at h;exact (ae7.mp h).1
theorem SR.Bp (R:SR c σ s α N)(h:a∈N.map (·.1)):a∉c.ax.map (·.1):=by
 have q:=R.nodup;rw[aeX]at q;exact λd=>(ae7.mp q).2.2 a h a d rfl
theorem SR.mem (R:SR c σ s α N) (h:a∈α):∃ b,(a,b)∈N:=by
 refine Y (aeP.mp (R.all a h)) ?_;clear R h;intro p d e;exact⟨p.2,by rw[←e];exact d⟩
theorem SR.away (R:SR c σ s α N):s.heap.objs.size∉α:=λd=>R.fresh (R.all _ d)
theorem SR.uniq(R:SR c σ s α N)(h:(a,o)∈N)(h':(a,o')∈N):o=o':=by
 have A:=R.get h;have d:=R.get h';rw[A]at d;exact aej d
theorem SR.dv (R:SR c σ s α N)(a:ak c):∀ p∈((s.heap.objs.size,o)::N)++c.ax,(p.1 ==af1)=false:=λp d=>by
 rcases aeA.mp d with rfl|d
 ·refine Y R.fr λm F A=>?_
  exact F.notModules (ai4 a.lim)
 ·exact R.hi p d
theorem SR.hidden (R:SR c σ s α N) (f:ak c) {m:Str->Option ael} (k:NR c σ.loc α N m) (j:Fr c.h₀ c.L h' m) (l:agM c.h₀ c.L h' ((s.heap.objs.size,o)::(N++c.ax))): SR c σ {s with heap:=h',toks:=t} α ((s.heap.objs.size,o)::N)/\bh σ α N σ α ((s.heap.objs.size,o)::N):=by
 have g:Ge α N α ((s.heap.objs.size,o)::N):=⟨afJ _,λd h d=>.tail _ h,λd h=>.inl h,λd A h=>⟨A,.tail _ h⟩⟩
 refine ⟨⟨(ay m j (k.mono g)),R.aK.mono g,l,?_,R.inj,λi o hi e=>?_,λa h=>ahH _ (R.all a h),R.dv f,R.wf,R.bD,R.len,R.low,R.bt,R.gens,R.os,f.aZ.keeps j.keep⟩,⟨⟨g,aeD _,λd d=>rfl,aeD _,rfl,λd d d d d h d=>.tail _ h,λd d=>⟨rfl,λd d d h=>.tail _ h⟩⟩,rfl⟩⟩
 ·rw[ahd,aeU];exact ae3.mpr ⟨R.Am,R.nodup⟩
 ·refine aH (R.obj i o hi e) ?_;clear R hi e;intro a b W n p;exact (bB a b W (.tail _ n) (p.mono g λd d d d h d=>.tail _ h))
theorem LS.vC(h:σ.room=true):σ.n<1024:=aer h
theorem pV (R:SR c σ s α N) (a:σ.room=true) (b:i<σ.n+1):(σ.push o).st.get i=if i=σ.n then some o else σ.st.get i:=
 get_set R.wf (LS.vC a) (aet b (LS.vC a))
theorem kG (h:α.length=n):(α++[a])[n]?=some a:=by
 subst h;rw[ag3 (aeD _),Nat.sub_self];rfl
theorem SR.add (R:SR c σ s α N) (j:ak c) (f:σ.room=true) {m:Str->Option ael} (l:NR c σ.loc α N m) (k:Fr c.h₀ c.L h' m) (n:agM c.h₀ c.L h' ((s.heap.objs.size,o)::(N++c.ax)))
  (p:bh σ α N (σ.push ao) (α++[s.heap.objs.size]) ((s.heap.objs.size,o)::N)->OR W (α++[s.heap.objs.size]) ((s.heap.objs.size,o)::N) σ.n o ao):
  SR c (σ.push ao) {s with heap:=h',toks:=t} (α++[s.heap.objs.size]) ((s.heap.objs.size,o)::N)/\bh σ α N (σ.push ao) (α++[s.heap.objs.size]) ((s.heap.objs.size,o)::N):=by
 have g:Ge α N (α++[s.heap.objs.size]) ((s.heap.objs.size,o)::N):=⟨ah3 _ _,λd h d=>.tail _ h,λa h=>by
  rcases aeQ.mp h with h|h
  ·exact .inl h
  ·rw[aev.mp h];exact .inr R.fresh,λd r h=>⟨r,.tail _ h⟩⟩
 have st:bh σ α N (σ.push ao) (α++[s.heap.objs.size]) ((s.heap.objs.size,o)::N):=⟨⟨g,aeD _,λi hi=>by
  have dv:i<σ.n:=aet hi R.low
  rw[pV R f (afg dv),if_neg (aeN dv)],af7 _,rfl,λd d d d d h d=>.tail _ h,λi hi=>⟨by
  have dv:i<σ.n:=R.bt i hi
  rw[pV R f (afg dv),if_neg (aeN dv)],λd d d h=>.tail _ h⟩⟩,rfl⟩
 refine ⟨⟨(ay m k (l.mono g)),R.aK.mono g,n,?_,?_,λi A hi e=>?_,?_,R.dv j,R.wf.set,LS.vC f,?_,ag6 R.low,(λi h=>afg (R.bt i h)),R.gens,R.os,j.aZ.keeps k.keep⟩,st⟩
 ·rw[ahd,aeU];exact ae3.mpr ⟨R.Am,R.nodup⟩
 ·refine ae7.mpr (bH R.inj (afe _ _) (λa u b v=>?_))
  rw[aev.mp v]
  rintro rfl
  exact R.away u
 ·rw[pV R f hi]at e
  by_cases q:i=σ.n
  ·rw[if_pos q]at e
   have z:=aej e;clear e;subst A
   subst q
   exact (bB _ o (kG R.len) (.head _) (p st))
  ·rw[if_neg q]at e
   refine aH (R.obj i A (ai8 (ail hi) q) e) ?_;clear hi q e;intro a b w x y
   exact (bB a b (g.at w) (.tail _ x) (y.mono g λd d d d h d=>.tail _ h))
 ·intro a h
  rw[aeU]
  rcases aeQ.mp h with h|h
  ·exact .tail _ (R.all a h)
  ·rw[aev.mp h];exact .head _
 ·show (α++[_]).length=σ.n+1
  rw[agU,R.len];rfl
theorem V5:lk k ((n,v)::l)=if k=n then some v else lk k l:=eD
theorem SR.V6 (R:SR c σ s α N) (g:ak c) (p:c.comp=none) (i:c.scope.names[n]?=some (x,k)) (q:VR W.kt α N v a) {t:Nat} {m:Str->Option ael}
  (f:NR c σ.loc α N m) (l:Fr c.h₀ c.L h' (λy=>if y=x then some v else m y)) (r:agM c.h₀ c.L h' (N++c.ax)):
  SR c ⟨(n,a)::σ.loc,σ.aK,σ.st,σ.n,σ.lo,σ.mark⟩ {s with heap:=h',toks:=t} α N/\Sts σ α N ⟨(n,a)::σ.loc,σ.aK,σ.st,σ.n,σ.lo,σ.mark⟩ α N:=by
 refine ⟨⟨(ay _ l ?_),R.aK,r,R.nodup,R.inj,R.obj,R.all,R.hi,R.wf,R.bD,R.len,R.low,R.bt,R.gens,R.os,g.aZ.keeps l.keep⟩,⟨.refl,aeD _,λd d=>rfl,aeD _,rfl,λd d d d d h d=>h,λd d=>⟨rfl,λd d d h=>h⟩⟩⟩
 unfold NR at f ⊢;rw[p]at f ⊢;intro j b A;dsimp only at A;rw[V5]at A;by_cases e:j=n
 ·subst e;rw[if_pos rfl]at A;have D:=aej A;clear A;subst b;exact (dy x k v i (if_pos rfl) q)
 ·rw[if_neg e]at A;refine cj (f j b A) ?_;clear f A;intro u w val o B C;refine (dy u w val o ((if_neg λz=>e ?_).trans B) C)
  subst z;exact zI g.cW o i
theorem Gs (o':Obj):(N.map (·.1)).Nodup->(a,o)∈N->∃ b,Upd a o o' N b/\b.map (·.1)=N.map (·.1)/\(a,o')∈b/\∀ p∈N,p.1≠a->p∈b:=by
 induction N with
 |nil=>exact λj h=>nomatch h
 |cons p N s=>
  intro A h;refine ae (ae3.mp A) ?_;clear A;intro W f;rcases aeA.mp h with rfl|h
  ·exact (nU ((a,o')::N) (.head λq c g=>W (aeP.mpr (ay q c g))) rfl (.head _) (λq c d=>(aeA.mp c).elim (λe=>absurd (congrArg Prod.fst e) d) (.tail _)))
  ·refine j1 (s f h) ?_;clear s f;intro b u i m k;exact (nU (p::b) (.tail (λe=>W (aeP.mpr (ay _ h e.symm))) u) (congrArg (p.1::·) i) (.tail _ m) (λq c d=>(aeA.mp c).elim (λe=>e▸.head _) λc=>.tail _ (k q c d)))
theorem Upd1(u:Upd a o o' N b):∀ p∈b,p=(a,o')\/(p∈N/\p.1≠a):=by
 induction u with
 |head d=>exact λp c=>(aeA.mp c).elim .inl λc=>.inr ⟨.tail _ c,d p c⟩
 |tail e A s=>exact λp c=>(aeA.mp c).elim (λq=>.inr ⟨q▸.head _,q▸e⟩) λc=>(s p c).elim .inl λq=>.inr ⟨.tail _ q.1,q.2⟩
theorem Upd2(u:Upd a o o' N b):∀ p∈N,p.1≠a->p∈b:=by
 induction u with
 |head A=>exact λp c d=>(aeA.mp c).elim (λe=>absurd (congrArg Prod.fst e) d) (.tail _)
 |tail e f s=>exact λp c d=>(aeA.mp c).elim (λq=>q▸.head _) λc=>.tail _ (s p c d)
theorem Upd3(u:Upd a o o' N b):(a,o')∈b:=by
 induction u with
 |head=>exact .head _
 |tail d s c=>exact .tail _ c
theorem Upd4(u:Upd a o o' N b) (h:∀ p∈M,p.1≠a):Upd a o o' (N++M) (b++M):=by
 induction u with
 |head c=>exact .head λp d=>(aeQ.mp d).elim (c p) (h p)
 |tail e A s=>exact .tail e s
theorem hH (R:SR c σ s α N){i j:Nat}{a:aez}(h:α[i]?=some a) (h':α[j]?=some a):i=j:=by
 refine aL (ae4.mp h) ?_;clear h;intro d A;refine aL (ae4.mp h') ?_;clear h';intro W b;have pw:=List.pairwise_iff_getElem.mp R.inj;rcases Nat.lt_trichotomy i j with q|q|q
 ·exact absurd (A.trans b.symm) (pw _ _ d W q)
 ·exact q
 ·exact absurd (b.trans A.symm) (pw _ _ W d q)
theorem SR.lt(R:SR c σ s α N)(h:α[i]?=some a):i<σ.n:=R.len▸(ae4.mp h).1
theorem kO (R:SR c σ s α N) (a:i<σ.n) (b:j<σ.n):(σ.put i o).st.get j=if j=i then some o else σ.st.get j:=
 get_set R.wf (aet a R.bD) (aet b R.bD)
theorem SR.mod (R:SR c σ s α N) (X:ak c) {i:Nat} {o o':Obj} (n:α[i]?=some a) (D:(a,o)∈N) (M:i∉σ.mark) (P:∀ w,o=afn w->∃ E,o'=afn E) (Z:∀ x,σ.st.get (i+1)=some x->i+1<σ.n->(∃ C es,x=.obj C es)->False):
  ∃ k,Upd a o o' (N++c.ax) (k++c.ax)/\bh σ α N (σ.put i ao') α k/\∀ {h':afm} {t:Nat} {m:Str->Option ael},NR c σ.loc α N m->Fr c.h₀ c.L h' m->agM c.h₀ c.L h' (k++c.ax)->OR W α k i o' ao'->
   SR c (σ.put i ao') {s with heap:=h',toks:=t} α k:=by
 refine j1 (Gs o' R.Nc D) λk qa F Q r=>?_
 have hi:=R.lt n;have g:Ge α N α k:=⟨afJ _,λp l hn=>r p l λe=>hn (e▸aeV n),λu_ h=>.inl h,λqb w h=>by
  by_cases q:qb=a
  ·subst q;refine aL (P w (aej ((R.news.get (aeo _ D)).symm.trans (R.news.get (aeo _ h))))) ?_;clear P;intro E e;exact⟨E,e▸Q⟩
  ·exact⟨w,r _ h q⟩⟩
 have st:bh σ α N (σ.put i ao') α k:=⟨⟨g,iz,λj A=>by
  have y:j<i:=aet A ja;rw[kO R hi (agt y hi),if_neg (aeN y)],aeD _,rfl,λj b ob A u v u_=>r _ v λe=>by
   have y:j<i:=aet A ja;exact aeN y (hH R u (show α[i]?=some b by rw[show b=a from e];exact n)),λj A=>⟨by
  have G:j≠i:=λe=>M (e▸A)
  rw[kO R hi (R.bt j A),if_neg G],λb ob u v=>r _ v λe=>by
   have G:j≠i:=λe=>M (e▸A)
   exact G (hH R u (show α[i]?=some b by rw[show b=a from e];exact n))⟩⟩,rfl⟩
 refine (dJ k (Upd4 qa λp l e=>R.Bp (a:=a) (aeF (f:=λp:aez×Obj=>p.1) D) (e▸aeF l)) st (λhm S ko ho=>⟨(ay _ S (hm.mono g)),R.aK.mono g,ko,by rw[aeX,F,←aeX];exact R.nodup,R.inj,λj H A e=>?_,λa h=>F▸R.all a h,λp l=>?_,R.wf.set,R.bD,R.len,aeE iz R.low,R.bt,R.gens,R.os,X.aZ.keeps S.keep⟩))
 rotate_left
 ·rcases aeQ.mp l with l|l
  ·have I:p.1∈k.map (·.1):=aeF l;rw[F]at I;refine Y (aeP.mp I) ?_;clear I;intro q hq e;have z:=R.hi q (aeo _ hq);rw[e]at z;exact z
  ·exact R.hi p (aeu _ l)
 rw[kO R hi A]at e;by_cases q:j=i
 ·rw[if_pos q]at e;have bj:=aej e;clear e;subst H;subst q;exact (bB a o' n Q ho)
 ·rw[if_neg q]at e;refine aH (R.obj j H A e) λB b u v h3=>?_
  have T:∀ {L B},α[L]?=some B->L≠i->B≠a:=λh z z'=>z (hH R h (z'▸n))
  exact (bB B b u (r _ v (T u q)) (h3.wh g λhx L d o h5 h6 V=>r _ h6 (T h5 λz=>Z _ (show σ.st.get (i+1)=some H from (z▸V:j=i+1)▸e) ((z▸V:j=i+1)▸A) hx)))
theorem SR.at (R:SR c σ s α N) (h:σ.st.get i=some o) (e:VR W.kt α N v (.ref i)):∃ a b,v=.ref a/\α[i]?=some a/\(a,b)∈N/\OR W α N i b o:=by
 refine Y e.inv ?_;clear e;intro a d hi;subst d;refine aH (R.obj _ _ (R.lt hi) h) ?_;clear R h;intro A b f g j;have d:=aej (hi.symm.trans f);subst A;exact (p8 _ b rfl hi g j)
theorem SR.of (R:SR c σ s α N) (h:σ.st.get i=some o) (hi:α[i]?=some a):∃ b,(a,b)∈N/\OR W α N i b o:=by
 refine aH (R.obj _ _ (R.lt hi) h) ?_;clear R h;intro A b d e f;rw[hi]at d;have g:=aej d;clear d;subst A;exact (ay b e f)
theorem bM.getL{P K α N x}{b aes}(f:bM P K α N b aes):match aes.lookup x with
  |some a=>∃ v,agB x b=some (some v)/\VR K α N v a
  |none=>agB x b=some none:=by
 induction f with
 |nil=>rfl
 |@cons y t v W b aes h r c=>
  rw[afz];by_cases e:x=y
  ·subst e;rw[beq_self_eq_true];refine (ay v ?_ h);unfold agB;rw[List.find?_cons_of_pos (by simp[Value.isStr])]
  ·rw[beq_eq_false_iff_ne.mpr e];have A:(Value.str y t).isStr x=false:=by
    show (y ==x)=false;exact beq_eq_false_iff_ne.mpr (Ne.symm e)
   have s:∀ d,agB x (⟨d,.str y t,v⟩::b)=agB x b:=by
    intro d;unfold agB;rw[List.find?_cons_of_neg (by rw[A];exact aeY),afA]
    have:(⟨d,.str y t,v⟩:DictEntry).refKey=false:=rfl;rw[this,ajU]
   dsimp only;induction q:aes.lookup x using aeB with
   |some a=>rw[q]at c;rw[s];exact c
   |none=>rw[q]at c;rw[s];exact c
noncomputable def yr (l:List Nat):List Nat->Bool:=aeL (motive:=λc=>List Nat->Bool) (λr=>aeL (motive:=λc=>Bool) true (λc c c=>false) r) (λa c d r=>aeL (motive:=λc=>Bool) false (λb s c=>aex false (d s) (aew a b)) r) l
noncomputable def seq(x y:Str):Bool:=yr x.cps.toList y.cps.toList
theorem Fx:∀ {l r:List Nat},yr l r=true↔l=r
 |[],[]=>⟨λe=>rfl,λe=>rfl⟩
 |[],f::g=>⟨λh=>absurd h aeY,λh=>(nomatch h)⟩
 |f::g,[]=>⟨λh=>absurd h aeY,λh=>(nomatch h)⟩
 |a::l,b::r=>by
  show aex (motive:=λe=>Bool) false (yr l r) (aew a b)=true↔_
  induction q:aew a b using aen with
  |false=>
   refine⟨λh=>absurd h aeY,λh=>?_⟩
   rw[(List.cons.inj h).1,afI]at q;exact gr q
  |true=>
   rw[aem q];show yr l r=true↔_;rw[Fx,List.cons.injEq];simp
theorem gG:seq x y=true↔x=y:=by
 unfold seq;rw[Fx];obtain⟨⟨x⟩⟩:=x;obtain⟨⟨y⟩⟩:=y;simp
theorem seq_eq:seq x y=(x ==y):=by
 induction q:seq x y using aen with
 |true=>rw[gG.mp q];simp
 |false=>exact(beq_eq_false_iff_ne.mpr λh=>by rw[gG.mpr h]at q;exact gr q).symm
noncomputable def bw{α:Type}(x:Str) (l:List (Str×α)):Option α:=aeL none (λe d c=>aex c (some e.2) (seq x e.1)) l
theorem sI{α:Type}:∀ {l:List (Str×α)},bw x l=l.lookup x
 |[]=>rfl
 |e::l=>by
  rw[afz];show aex (motive:=λa=>Option α) (bw x l) (some e.2) (seq x e.1)=_
  rw[seq_eq,sI]
  cases x ==e.1<;>rfl
theorem V7{T α N v c a}(h:VR T α N v (.may c a)):False:=h.inv
theorem zj{b:Type}{o:Option b}{r:Option (List b)}{l}(h:gK o r=some l):∃ d a,o=some d/\r=some a/\l=d::a:=by
 induction o using aeB with
 |none=>exact aT h
 |some d=> induction r using aeB with
  |none=>exact aT h
  |some a=>have c:=aej h;clear h;subst l;exact (bB d a rfl rfl rfl)
theorem sd (h:gP f o=some x):∃ b,o=some b/\f b=x:=by
 induction o using aeB with
 |none=>exact aT h
 |some b=>exact (ay b rfl (aej h))
theorem Fy{D:O->Option afs}(h:dL T D (a::l)=some b):(∃ c v,a=.may c v/\((T.cond c=true/\gK (D v) (dL T D l)=some b)\/(T.cond c=false/\dL T D l=some b)))\/(sH a/\gK (D a) (dL T D l)=some b):=by
 rcases fD a with ⟨c,v,rfl⟩|s
 ·have d:(aex (dL T D l) (gK (D v) (dL T D l)) (T.cond c):Option (List afs))=some b:=h;refine .inl (gJ c v rfl ?_);induction e:T.cond c using aen with
  |true=>rw[e]at d;exact .inl ⟨rfl,d⟩
  |false=>rw[e]at d;exact .inr ⟨rfl,d⟩
 ·exact .inr ⟨s,(s _ _).symm.trans h⟩
theorem nX{T:KT}{D:O->Option afs}{c v}{l:List O}:dL T D (.may c v::l)=aex (dL T D l) (gK (D v) (dL T D l)) (T.cond c):=rfl
theorem nY{D:O->Option afs}(b:sH a):dL T D (a::l)=gK (D a) (dL T D l):=b _ _
theorem R1{T:KT}{h:afm}{n:Nat}{D:O->Option afs}(j:∀ a d v,D a=some d->VR T α N v a->(∃ f,Reads h v d f)/\d.canLay0=true/\d.depth<=n): ∀ {vs l},ah T α N vs l->∀ {b},dL T D l=some b->(∃ f,ReadsAll h vs b f)/\afh b=true/\ahp b<=n:=by
 have k:∀ {v vs a l b},VR T α N v a->(∀ {b},dL T D l=some b->(∃ f,ReadsAll h vs b f)/\afh b=true/\ahp b<=n)->gK (D a) (dL T D l)=some b-> (∃ f,ReadsAll h (v::vs) b f)/\afh b=true/\ahp b<=n:=λW A e=>by refine aH (zj e) ?_;intro d b m o g;subst g;refine bU (j _ _ _ m W) ?_;clear j m;intro g p q;obtain ⟨f,t⟩:=g;refine bU (A o) ?_;clear o;intro g w x;obtain ⟨z,y⟩:=g;exact (bH ⟨_,.cons t y⟩ (aei.mpr ⟨p,w⟩) (Nat.max_le.mpr ⟨q,x⟩))
 intro vs l r;refine ah.rec (motive_1:=λs s s=>True) (motive_2:=λvs l s=>∀ {b},dL T D l=some b->(∃ f,ReadsAll h vs b f)/\afh b=true/\ahp b<=n) trivial (λs=>trivial) (λs s=>trivial) (λs s=>trivial) (λs s s s s s=>trivial) (λs s s=>trivial) (λs s s s=>trivial) (λs=>trivial) (λs=>trivial) (λs s=>trivial) (λs s s s=>trivial) (λs s s s=>trivial) (λs=>trivial) (λs s s=>trivial) ?_ ?_ ?_ ?_ r
 ·intro b e;have g:=aej e;clear e;subst b;exact (bH ⟨_,.nil⟩ rfl (afj _))
 ·intro v a vs l W _ _ A b e;rcases Fy e with ⟨c,u,rfl,_⟩|⟨_,e⟩
  ·exact (V7 W).elim
  ·exact k W A e
 ·intro v a vs l c i W _ _ A b e;rw[nX,i]at e;exact k W A e
 ·intro a vs l c i _ A b e;rw[nX,i]at e;exact A e
theorem DR.reads (R:SR c σ s α N):∀ {a d v},DR W.kt σ.st n a d->VR W.kt α N v a->(∃ f,Reads s.heap v d f)/\d.canLay0=true/\d.depth<=n:=by
 induction n with
 |zero=>intro a d v h P;exact aT h
 |succ n C=>
  intro a d v h F;have L:=@R1 α N W.kt s.heap n (toD W.kt σ.st n) λa d v=>C
  have tup:∀ {x o g m l},s.heap.get? x=some o->o.cls=.type "tuple" ->o.data=.seq (aju g) m->ah W.kt α N g l->iD W.kt (toD W.kt σ.st n) (.tup l)=some d->
    (∃ f,Reads s.heap (.ref x) d f)/\d.canLay0=true/\d.depth<=n+1:=λw y z r e=>by
   refine Y (sd e) ?_;intro G i A;subst A;refine bU (L r i) λA j k=>?_;obtain ⟨f,p⟩:=A
   exact (bH ⟨_,.tuple w y z p⟩ j (agf k))
  have D:∀ {x g m l},s.heap.get? x=some (aeG (aju g) m)->ah W.kt α N g l->iD W.kt (toD W.kt σ.st n) (.lst l)=some d->
    (∃ f,Reads s.heap (.ref x) d f)/\d.canLay0=true/\d.depth<=n+1:=λw r e=>by
   refine Y (sd e) ?_;intro G i A;subst A;refine bU (L r i) ?_;clear L;intro A j k;obtain ⟨f,p⟩:=A;exact (bH ⟨_,.list w rfl rfl p⟩ j (agf k))
  cases F with
  |none=>cases h;exact ⟨⟨_,.none⟩,rfl,afj _⟩
  |bool=>cases h;exact ⟨⟨_,.bool _⟩,rfl,afj _⟩
  |int=>cases h;exact ⟨⟨_,.int _ _⟩,rfl,afj _⟩
  |str t H=>cases h;exact ⟨⟨_,.str _ _⟩,H,afj _⟩
  |tup B I i M r=>exact tup (R.get B) i.1 M r h
  |tupK hl r=>exact tup (R.aZ _ _ hl) rfl rfl r h
  |hl B I r=>exact D (R.get B) r h
  |ref E=>
   have u:iD W.kt (toD W.kt σ.st n) (ae2 .bad yq (σ.st.get _))=some d:=h;induction e:σ.st.get _ using aeB with
   |none=>rw[e]at u;exact aT u
   |some o=>
    rw[e]at u;refine Y (R.of e E) ?_;clear e E;intro b y z
    cases z with
    |list r=>exact D (R.get y) r u
    |_=>exact aT u
  |ty q=>
   refine bU (C h q) ?_;clear R q;intro p j k;exact ⟨p,j,ag6 k⟩
  |_=>cases h
theorem EO{b:Type}{o o':Option b}{r f:Option (List b)}(h:∀ d,o=some d->o'=some d) (g:∀ a,r=some a->f=some a){l}(e:gK o r=some l):gK o' f=some l:=by
 refine aH (zj e) ?_;clear e;intro d a c s A;subst A;rw[h _ c,g _ s];rfl
theorem Hd{D f:O->Option afs}(h:∀ a d,D a=some d->f a=some d){l}:∀ {b},dL T D l=some b->dL T f l=some b:=by
 induction l with
 |nil=>exact λe=>e
 |cons a l s=>
  intro b e;rcases Fy e with⟨c,v,rfl,⟨A,e⟩|⟨A,e⟩⟩|⟨N,e⟩
  ·rw[nX,A];exact EO (h v) (λW=>s) e
  ·rw[nX,A];exact s e
  ·rw[nY N];exact EO (h a) (λW=>s) e
theorem Fz{f:List afs->afs}{o o' d}(h:∀ a,o=some a->o'=some a) (e:gP f o=some d):gP f o'=some d:=by
 refine Y (sd e) ?_;clear e;intro a c s;subst s;exact congrArg (gP f) (h _ c)
theorem R2{D b:O->Option afs}(h:∀ a d,D a=some d->b a=some d){v d}(e:iD T D v=some d):iD T b v=some d:=by
 induction v using Vw.casesOn with
 |sc=>exact e
 |tup l=>exact Fz (λc=>Hd h) e
 |lst l=>exact Fz (λc=>Hd h) e
 |tok f k=>exact h _ _ e
 |bad=>exact aT e
theorem DR.up1{T st}:∀ {n a d},DR T st n a d->DR T st (n+1) a d
 |0,b,e,h=>nomatch h
 |n+1,a,d,h=>R2 (λa d=>DR.up1 (n:=n)) h
theorem DR.up{T st n a d m}(h:DR T st n a d)(b:n<=m):DR T st m a d:=by
 induction b with
 |refl=>exact h
 |step s c=>exact c.up1
noncomputable def uA (st:Tr) (a:O) (v:Vw):Prop:=Vw.casesOn v (λc=>True) (λl=>a=.tup l) (λl=>a=.hl l\/∃ i,a=.ref i/\st.get i=some (.list l)) (λf k=>a=.ty f k) True
theorem An{st a}:uA st a (vw st a):=by
 induction a using O.casesOn with
 |tup=>exact rfl
 |hl=>exact .inl rfl
 |ty=>exact rfl
 |ref i=> show uA st (.ref i) (ae2 .bad yq (st.get i));induction e:st.get i using aeB with
  |none=>exact trivial
  |some o=>induction o using AO.casesOn with
   |list l=>exact .inr ⟨i,rfl,e⟩
   |_=>exact trivial
 |_=>exact trivial
theorem Ao{st a l}(h:vw st a=.tup l):a=.tup l:=(h▸An:uA st a (.tup l))
theorem V8{st a l}(h:vw st a=.lst l):a=.hl l\/∃ i,a=.ref i/\st.get i=some (.list l):=(h▸An:uA st a (.lst l))
theorem Gu{st a f k}(h:vw st a=.tok f k):a=.ty f k:=(h▸An:uA st a (.tok f k))
noncomputable def eE (st:Tr) (a:O):Option (List O):=Vw.casesOn (vw st a) (λc=>none) (λc=>none) some (λc c=>none) none
theorem FA{st a l}(h:eE st a=some l):vw st a=.lst l:=by
 unfold eE at h
 cases e:vw st a with
 |lst c=>rw[e]at h;exact congrArg _ (aej h)
 |_=>rw[e]at h;exact aT h
theorem DR.ta{T st n a v d}(h:vw st a=v) (q:iD T (toD T st n) v=some d):DR T st (n+1) a d:=(congrArg (iD T (toD T st n)) h).trans q
theorem DR.Ap{T st n a l b}(h:vw st a=.lst l) (q:pg T st n l b):DR T st (n+1) a (.list b):=.ta h (congrArg (gP .list) q)
theorem DR.Gv{T st n a l b}(h:vw st a=.tup l) (q:pg T st n l b):DR T st (n+1) a (.tuple b):=.ta h (congrArg (gP .tuple) q)
theorem Uo{T st n a l b}(h:eE st a=some l) (q:pg T st n l b):DR T st (n+1) a (.list b):=.Ap (FA h) q
noncomputable def gv (b:O->Bool):List O->Bool:=aeL true λa c r=>and (ew a (λc v=>b v) (b a)) r
noncomputable def He (D:O->Bool) (v:Vw):Bool:=Vw.casesOn v (λc=>true) (gv D) (gv D) (λc c=>true) false
noncomputable def iR (st:Tr):Nat->O->Bool:=af6 (λc=>false) λc d a=>He d (vw st a)
theorem qo{D:O->Option afs}{b:O->Bool}(g:∀ a,b a=true->∃ d,D a=some d):gv b l=true->∃ f,dL T D l=some f:=by
 induction l with
 |nil=>exact λi=>⟨_,rfl⟩
 |cons a l W=>
  intro h;refine ae (aei.mp (show and (ew a (λj v=>b v) (b a)) (gv b l)=true from h)) ?_;clear h;intro s A
  refine aL (W A) ?_;clear A;intro f r;have go:∀ {v},b v=true->∃ f,gK (D v) (dL T D l)=some f:=λe=>by
   refine aL (g _ e) ?_;clear g e;intro d q;exact⟨_,by rw[q,r];rfl⟩
  rcases fD a with⟨c,v,rfl⟩|N
  ·rw[nX];induction T.cond c using aen with
   |true=>exact go s
   |false=>exact⟨_,r⟩
  ·rw[nY N];exact go ((N _ _).symm.trans s)
theorem Gw{T st n}{b:O->Bool}(e:∀ a,b a=true->∃ d,DR T st n a d)(h:gv b l=true):∃ f,pg T st n l f:=qo e h
theorem R3{D:O->Option afs}{e:O->Bool}(b:∀ a,e a=true->∃ d,D a=some d) (g:∀ f k,∃ d,D (T.θ f k)=some d) (h:He e v=true):∃ d,iD T D v=some d:=by
 induction v using Vw.casesOn with
 |sc d=>exact⟨_,rfl⟩
 |tup l=>refine aL (qo (T:=T) b h) λc q=>?_;exact⟨_,congrArg (gP .tuple) q⟩
 |lst l=>refine aL (qo (T:=T) b h) ?_;clear b;intro c q;exact⟨_,congrArg (gP .list) q⟩
 |tok f k=>exact g f k
 |bad=>exact aX h
theorem jh.at{T st}(a:jh T) (n f k):∃ d,DR T st (n+20) (T.θ f k) d:=(aL (a f k st) λd q=>⟨d,q.up (agC 20 n)⟩)
theorem nZ{T st}(b:jh T):∀ (n:Nat) a,iR st n a=true->∃ d,DR T st (n+20) a d
 |0,a,h=>absurd h aeY
 |n+1,a,h=>by rw[ahe];refine aL (R3 (T:=T) (nZ b n) (b.at n) (v:=vw st a) h) ?_;clear b h;intro d q;exact⟨d,DR.ta (n:=n+20) rfl q⟩
noncomputable def oK (d:afs):Nat:=afZ (motive_1:=λc=>Nat) d (nat_lit 0) (λc=>nat_lit 1) (λc=>nat_lit 1) (λc=>nat_lit 3) (λc=>nat_lit 5) (λc=>nat_lit 4) (λc=>nat_lit 9)
noncomputable def iL (v:Vw):Nat:=Vw.casesOn v oK (λc=>nat_lit 4) (λc=>nat_lit 5) (λc c=>nat_lit 9) (nat_lit 9)
theorem Up{d d':afs}(h:oK d≠oK d'):afS d d'=false:=by
 induction d using afZ<;>induction d' using afZ<;>first|exact absurd rfl h|simp only[afS]
theorem QL{T D v d}(h:iD T D v=some d) (a:afu (iL v) 9=true):iL v=oK d:=by
 induction v using Vw.casesOn with
 |sc=>cases h;rfl
 |tup l=>refine Y (sd h) ?_;intro s A c;subst c;rfl
 |lst l=>refine Y (sd h) ?_;clear h;intro s A c;subst c;rfl
 |_=>exact aX a
theorem DR.tag{T st n a d}(h:DR T st (n+1) a d) (b:afu (iL (vw st a)) 9=true):iL (vw st a)=oK d:=QL h b
noncomputable def Nd (d d':afs):Option Bool:=afZ (motive_1:=λc=>Option Bool) d (some true)
 (λx=>afZ (motive_1:=λc=>Option Bool) d' none (λy=>some (x ==y)) (λc=>none) (λc=>none) (λc=>none) (λc=>none) (λc=>none))
 (λx=>afZ (motive_1:=λc=>Option Bool) d' none (λc=>none) (λy=>some (x ==y)) (λc=>none) (λc=>none) (λc=>none) (λc=>none))
 (λx=>afZ (motive_1:=λc=>Option Bool) d' none (λc=>none) (λc=>none) (λy=>some (seq x y)) (λc=>none) (λc=>none) (λc=>none)) (λc=>none) (λc=>none) (λc=>none)
theorem V9{d d' t}(a:oK d=oK d')(h:Nd d d'=some t):afS d d'=t:=by
 induction d using afZ with
 |none=>induction d' using afZ<;>first|(cases h;simp only[afS];done)|cases a
 |bool=>induction d' using afZ<;>first|(cases h;simp only[afS];done)|cases h
 |int=>induction d' using afZ<;>first|(cases h;simp only[afS];done)|cases h
 |str=>induction d' using afZ<;>first|(cases h;simp only[afS];exact seq_eq.symm)|cases h
 |_=>cases h
noncomputable def dO{a:Type}(b:Bool)(x:Option a):Option a:=aex none x b
theorem fR{a:Type}{x:Option a}{y}(h:dO b x=some y):b=true/\x=some y:=by
 induction b using aen with
 |true=>exact⟨rfl,h⟩
 |false=>exact aT h
noncomputable def ob (o:Option Bool) (t f:Option Bool):Option Bool:=ae2 none (λb=>aex f t b) o
theorem zV(h:ob o t f=some y):(o=some true/\t=some y)\/(o=some false/\f=some y):=by
 induction o using aeB with
 |none=>exact aT h
 |some b=> induction b using aen with
  |true=>exact .inl ⟨rfl,h⟩
  |false=>exact .inr ⟨rfl,h⟩
theorem QM (a b:List afs):afS (.tuple a) (.tuple b)=agG a b:=by simp only[afS]
theorem R4 (a b:List afs):afS (.list a) (.list b)=agG a b:=by simp only[afS]
theorem zc (a:List afs):aid (.tuple a)=afh a:=by simp only[aid]
theorem zg (a:List afs):aid (.list a)=afh a:=by simp only[aid]
theorem PL (d:afs)(a:List afs):afh (d::a)=(d.canLay0&&afh a):=by simp only[afh]
noncomputable def eq1 (b:O->Bool) (a:O) (l:List O):Option Bool:=ew a (λc c=>none) (dO (gv b (a::l)) (some false))
noncomputable def uB (e:O->Bool) (f:O->O->Option Bool):List O->List O->Option Bool:=aeL (motive:=λd=>List O->Option Bool)
 (λr=>aeC r (some true) λb r=>eq1 e b r)
 (λa l s r=>aeC r (eq1 e a l) λb r=>ew a (λc v=>ew b (λA N=>dO (aew c A) (ob (f v N) (s r) none)) none) (ew b (λd d=>none) (ob (f a b) (s r) (dO (and (gv e l) (gv e r)) (some false)))))
noncomputable def Hf (a:O->Bool) (b:O->O->Option Bool) (v w:Vw):Option Bool:=Vw.casesOn v (λd=>Vw.casesOn w (Nd d) (λc=>none) (λc=>none) (λc c=>none) none)
 (λl=>Vw.casesOn w (λc=>none) (uB a b l) (λc=>none) (λc c=>none) none)
 (λl=>Vw.casesOn w (λc=>none) (λc=>none) (uB a b l) (λc c=>none) none)
 (λf k=>Vw.casesOn w (λc=>none) (λc=>none) (λc=>none) (λs A=>dO (and (aew f s) (aew k A)) (some true)) none) none
noncomputable def Bq (r e:O->Bool) (f:O->O->Option Bool) (a b:O) (v w:Vw):Option Bool:=aex (dO (and (and (afu (iL v) (nat_lit 9)) (afu (iL w) (nat_lit 9))) (and (r a) (r b))) (some false)) (Hf e f v w) (aew (iL v) (iL w))
noncomputable def lL (st:Tr):Nat->O->O->Option Bool:=af6 (λc c=>none) λn d a b=>Bq (iR st (afk n)) (iR st n) d a b (vw st a) (vw st b)
noncomputable def Cz(D:O->Option afs)(a b:O)(t:Bool):Prop:=∃ d c,D a=some d/\D b=some c/\(d.canLay0=true->c.canLay0=true->afS d c=t)
noncomputable def oM(T:KT)(D:O->Option afs)(l r:List O)(t:Bool):Prop:=∃ c d,dL T D l=some c/\dL T D r=some d/\(afh c=true->afh d=true->agG c d=t)
theorem Gx{D:O->Option afs}{b:O->Bool}(e:∀ a,b a=true->∃ d,D a=some d){a l t}(h:eq1 b a l=some t):t=false/\∃ d f,dL T D (a::l)=some (d::f):=by
 unfold eq1 at h;rcases fD a with⟨c,v,rfl⟩|A
 ·exact aT h
 ·refine ae (fR ((A _ _).symm.trans h)) ?_;clear h;intro N W;refine aL (qo (T:=T) e N) ?_;clear e N;intro f q;have s:=q;rw[nY A]at s;refine aH (zj s) ?_;clear s;intro d g i i j;subst j;exact (X0 ((aej W).symm) d g q)
theorem QN{d a}:agG [] (d::a)=false:=by simp only [agG]
theorem QO{d a}:agG (d::a) []=false:=by simp only [agG]
theorem oM.cons{T:KT}{D:O->Option afs}{a b l r t t'}(h:Cz D a b t) (h':oM T D l r t'):∃ e f,gK (D a) (dL T D l)=some e/\gK (D b) (dL T D r)=some f/\(afh e=true->afh f=true->agG e f=(t&&t')):=by
 refine aH h ?_;clear h;intro d k A N W;refine aH h' ?_;clear h';intro e f g i j;rw[A,N,g,i];refine (bB _ _ rfl rfl (λc s=>?_))
 have c:=aei.mp c;have s:=aei.mp s;exact congr (congrArg and (W c.1 s.1)) (j c.2 s.2)
theorem Gy{D:O->Option afs}{f:O->Bool}{g:O->O->Option Bool}(i:∀ a,f a=true->∃ d,D a=some d) (o:∀ a b t,g a b=some t->Cz D a b t){l}:∀ {r t},uB f g l r=some t->oM T D l r t:=by
 induction l with
 |nil=>
  intro r t h;induction r using aeC with
  |nil=>have W:=aej h;clear h;subst t;exact⟨_,_,rfl,rfl,λs s=>rfl⟩
  |cons b r=>
  refine Hb (Gx (T:=T) i (show eq1 f b r=some t from h)) ?_;intro W d j e;subst W;exact⟨_,_,rfl,e,λs s=>QN⟩
 |cons a l p=>
  intro r t h;induction r using aeC with
  |nil=>
  refine Hb (Gx (T:=T) i (show eq1 f a l=some t from h)) ?_;intro W d j e;subst W;exact⟨_,_,e,rfl,λs s=>QO⟩
  |cons b r=>
  have q:ew a (λc v=>ew b (λu w=>dO (aew c u) (ob (g v w) (uB f g l r) none)) none) (ew b (λs s=>none) (ob (g a b) (uB f g l r) (dO (and (gv f l) (gv f r)) (some false))))=some t:=h
  unfold oM;rcases fD a with⟨c,v,rfl⟩|x
  ·rcases fD b with⟨u,w,rfl⟩|k
   ·refine ae (fR q) λE m=>?_
    obtain rfl:=aem E;rcases zV m with⟨N,A⟩|⟨_,A⟩
    ·rw[nX,nX];induction T.cond c using aen with
     |true=>exact oM.cons (o _ _ _ N) (p A)
     |false=>exact p A
    ·exact aT A
   ·exact nomatch (k _ _).symm.trans q
  ·have m:=(x _ _).symm.trans q;rcases fD b with⟨u,w,rfl⟩|k
   ·exact aT m
   ·have A:=(k _ _).symm.trans m;rw[nY x,nY k];rcases zV A with⟨N,n⟩|⟨N,n⟩
    ·exact oM.cons (o _ _ _ N) (p n)
    ·refine ae (fR n) ?_;clear n;intro y F;refine ae (aei.mp y) ?_;clear y;intro z B;refine aL (qo (T:=T) i z) ?_;clear z;intro j G;refine aL (qo (T:=T) i B) ?_;clear i B;intro C H;obtain rfl:=aej F;exact oM.cons (t':=agG j C) (o _ _ _ N) (bB j C G H (λs s=>rfl))
theorem R5{D:O->Option afs}{j:O->Bool}{m:O->O->Option Bool}(g:∀ a,j a=true->∃ d,D a=some d) (i:∀ a b t,m a b=some t->Cz D a b t) (n:∀ f k,∃ d,D (T.θ f k)=some d){v w t}(e:iL v=iL w) (h:Hf j m v w=some t):
  ∃ d d',iD T D v=some d/\iD T D w=some d'/\(d.canLay0=true->d'.canLay0=true->afS d d'=t):=by
 induction v using Vw.casesOn with
 |sc d=>induction w using Vw.casesOn with
  |sc d'=>exact⟨d,d',rfl,rfl,λo o=>V9 e h⟩
  |_=>exact aT h
 |tup l=>induction w using Vw.casesOn with
  |tup r=>refine aH (Gy (T:=T) g i h) λu x s A N=>?_;exact⟨_,_,congrArg (gP .tuple) s,congrArg (gP .tuple) A,λc W=>(QM _ _).trans (N (zc _▸c) (zc _▸W))⟩
  |_=>exact aT h
 |lst l=>induction w using Vw.casesOn with
  |lst r=>refine aH (Gy (T:=T) g i h) ?_;clear g i;intro u x s A N;exact⟨_,_,congrArg (gP .list) s,congrArg (gP .list) A,λc W=>(R4 _ _).trans (N (zg _▸c) (zg _▸W))⟩
  |_=>exact aT h
 |tok f k=>induction w using Vw.casesOn with
  |tok C E=>
   refine ae (fR h) λp y=>?_
   obtain rfl:=aej y;refine ae (aei.mp p) ?_;clear p;intro z B;obtain rfl:=aem z;obtain rfl:=aem B;refine aL (n f k) ?_;clear n;intro d q;exact⟨d,d,q,q,λc o=>SeqAt.eqv_refl d c⟩
  |_=>exact aT h
 |bad=>exact aT h
theorem Aq{T st}(g:jh T):∀ (n:Nat) a b t,lL st n a b=some t->∃ d d',DR T st (n+20) a d/\DR T st (n+20) b d'/\(d.canLay0=true->d'.canLay0=true->afS d d'=t):=by
 intro n;induction n with
 |zero=>intro a b t h;exact aT h
 |succ n j=>
  intro a b t h;have h:Bq (iR st (n+1)) (iR st n) (lL st n) a b (vw st a) (vw st b)=some t:=h;unfold Bq at h;induction e:aew (iL (vw st a)) (iL (vw st b)) using aen with
  |false=>
   rw[e]at h;refine ae (fR h) λc k=>?_
   obtain rfl:=aej k;refine ae (aei.mp c) ?_;clear c;intro s A;refine ae (aei.mp s) ?_;clear s;intro l m;refine ae (aei.mp A) ?_;clear A;intro N W;rw[ahe];have f:=nZ (st:=st) g (n+1);rw[ahe]at f;refine aL (f a N) ?_;clear N;intro d q;refine aL (f b W) ?_;clear f W;intro d' i;exact⟨d,d',q,i,λo o=>Up λz=>ain e ((DR.tag (n:=n+20) q l).trans (z.trans (DR.tag (n:=n+20) i m).symm))⟩
  |true=>
   rw[e]at h;rw[ahe];refine aH (R5 (T:=T) (nZ g n) j (g.at n) (aem e) h) ?_;clear g e h;intro d d' p r u;exact (bB d d' (DR.ta (n:=n+20) rfl p) (DR.ta (n:=n+20) rfl r) u)
end
section
variable{W:Wd}{c:Cx W}{A:ae6}{d:Nat}
theorem bO(h:Rs.no=y)(a:y≠.no){P:Prop}:P:=absurd h.symm a
@[elab_as_elim]theorem gE{b:Type}{z y₀:b}{f:Str->b}{C:ael->Prop}(e:VR T α N v a) (h:afM z a f=y₀) (g:y₀≠z) (k:∀ x t,a=.str x->afp x=true->f x=y₀->C (.str x t)):C v:=by
 refine Y (gD h g) ?_;clear h g;intro x c h;subst c;refine Y e.inv ?_;clear e;intro t c d;subst c;exact k x t rfl d h
@[elab_as_elim]theorem i4{b:Type}{z y₀:b}{f:Int->b}{C:ael->Prop}(e:VR T α N v a) (h:dU z a f=y₀) (g:y₀≠z) (k:∀ i t,a=.int i->f i=y₀->C (.int i t)):C v:=by
 refine Y (jU h g) ?_;clear h g;intro x c h;subst c;refine aL e.inv ?_;clear e;intro t c;subst c;exact k x t rfl h
@[elab_as_elim]theorem zo{g:Type}{z y₀:g}{f:Bool->g}{C:ael->Prop}(j:VR T α N v a) (h:i9 z a f=y₀) (i:y₀≠z) (k:∀ b,a=.bool b->f b=y₀->C (.bool b)):C v:=by
 refine Y (pT h i) ?_;clear h i;intro x c h;subst c;have e:v=.bool x:=j.inv;subst e;exact k x rfl h
@[elab_as_elim]theorem ma (R:SR c σ s α N){j:Type}{z y₀:j}{f:Nat->AO->j}{C:ael->Prop}(l:VR W.kt α N v a) (h:d0 z σ.st a f=y₀) (g:y₀≠z) (k:∀ i x b o,a=.ref i->α[i]?=some x->(x,b)∈N->σ.st.get i=some o->OR W α N i b o->f i o=y₀->C (.ref x)):C v:=by
 refine Y (i3 h g) ?_;clear h;intro i d h;subst d;refine Y (aR h g) ?_;clear h g;intro o e h;refine Y l.inv ?_;clear l;intro x d A;subst d;refine Y (R.of e A) ?_;clear R;intro b m n;exact k i x b o rfl A m e n h
@[elab_as_elim]theorem kH (R:SR c σ s α N){l:Type}{z y₀:l}{f:List (Str×O)->l}{C:ael->Prop}(m:VR W.kt α N v a) (h:d0 z σ.st a (λg o=>ix z o f)=y₀) (j:y₀≠z) (k:∀ x e kvs,(x ==af1)=false->s.heap.DictOf (afb W.prog W.w) x kvs->aU W.kt α N kvs e->f e=y₀->C (.ref x)):C v:=
 ma R m h j λi x b o g g d g A h=>by refine Y (l7 h j) ?_;clear h j;intro e n h;subst n;refine Y A.inv ?_;clear A;intro kvs p q;exact k x e kvs (R.hi _ (aeo _ d)) (agc.mpr (ay _ (R.get d) p)) q h
theorem aO{a:Type}{b:a}:some b≠none:=nofun
theorem eX{α:Type}{l:List (Str×α)}:∀ {n:Nat}{x:Str}{k:α},(l.map (·.1)).Nodup->l[n]?=some (x,k)->l.lookup x=some k:=by
 induction l with
 |nil=>intro n x k W h;exact aT h
 |cons y l d=> obtain⟨y,a⟩:=y;intro n x k c h;induction n using aeI with
  |zero=>cases h;rw[afz,beq_self_eq_true]
  |succ n=>
  rw[aeU,ae3]at c;rw[afz];have A:x∈l.map (·.1):=by simpa using aeF (f:=(·.1)) (aeV (by simpa using h:l[n]?=some (x,k)))
  have:(x ==y)=false:=beq_eq_false_iff_ne.mpr λe=>c.1 (e▸A)
  rw[this];exact d c.2 h
noncomputable def wi{α:Type}(l:List α) (n:Nat):Bool:=aeL (motive:=λc=>Nat->Bool) (λc=>true) (λc c d n=>aex (d (ago n)) false (aew n (nat_lit 0))) l n
theorem i5{α:Type}:∀ {l:List α}{n:Nat},wi l n=true->l.length<=n
 |[],n,b=>afj _
 |a::l,n,h=>by
  have h':(aex (motive:=λe=>Bool) (wi l (ago n)) false (aew n 0))=true:=h
  induction n using aeI with
  |zero=>exact aX h'
  |succ n=>exact agf (i5 (l:=l) h')
noncomputable def cC(a:O):Ev:=λc k=>k a c
noncomputable def Ar (a:Const):Option O:=match a with
 |.none=>some .none
 |.bool b=>some (.bool b)
 |.int i=>some (.int i)
 |.str x=>dO (afp x) (some (.str x))
 |_=>none
theorem te (b:Ar f=some a):aE c A (.Constant f kk pos) (cC a):=by
 intro i k y h j s l N E R m Q d;induction f using Const.casesOn with
 |none=>have W:=aej b;clear b;subst a;exact Constant_none (d _ _ _ _ _ _ h R .refl .none)
 |bool=>have W:=aej b;clear b;subst a;exact Constant_bool (d _ _ _ _ _ _ h R .refl (.bool _))
 |int=>have W:=aej b;clear b;subst a;exact wpAny_Constant_int (d _ _ _ _ _ _ h R.toks .refl (.int _ _))
 |str=>refine ae (fR b) λg e=>?_;have W:=aej e;clear e;subst a;exact Constant_str (d _ _ _ _ _ _ h R.toks .refl (.str _ g))
 |_=>exact aT b
noncomputable def cJ(x:Str):Bool:=!(x ==("__debug__" :Str))&&!(x ==("__classdict__" :Str))
noncomputable def J (n:Nat):Ev:=λd k=>LS.rec (motive:=λc=>Rs) (λl c c c c c=>aeL (motive:=λc=>Rs) .no (λe c A=>Prod.rec (motive:=λc=>Rs) (λm v=>aex (motive:=λc=>Rs) A (k v d) (aew n m)) e) l) d
theorem nP:J n σ k=aD .no (lk n σ.loc) λv=>k v σ:=by
 show (aeL (motive:=λc=>Rs) .no (λe c d=>Prod.rec (motive:=λc=>Rs) (λm v=>aex (motive:=λc=>Rs) d (k v σ) (aew n m)) e) σ.loc)=_
 induction σ.loc with
 |nil=>rfl
 |cons e l d=>
  show aex (motive:=λc=>Rs) _ (k e.2 σ) (aew n e.1)=ae2 Rs.no (λv=>k v σ) (aex (motive:=λc=>Option O) (lk n l) (some e.2) (aew n e.1))
  induction aew n e.1 using aen with
  |false=>exact d
  |true=>rfl
theorem el.at (h:el W sc loc α N m) (e:lk n loc=some v) (a:sc.names[n]?=some (x,k)):∃ val,m x=some val/\VR W.kt α N val v:=by
 refine cj (h n v e) ?_;clear h e;intro b f val c d A
 cases (aej (a.symm.trans c))
 exact (ay val d A)
theorem kS (a:ak c) (b:c.scope.names[n]?=some (x,.local)) (e:cJ x=true):aE c A (.Name x pos) (J n):=by
 intro B k y h i s C N E R D Q j;have e:=(aeT _).mp (aei.mp e).1;refine Y R.fr λm F d=>?_
 have W:=a.locs;have l:=eX a.cW b;rw[nP]at h;refine Y (aR h i) ?_;clear h i;intro v f h;unfold NR at d;induction q:c.comp using aeB with
 |none=>
  rw[q]at d W;refine Y (d.at f b) λval g t=>?_
  exact ajo (aiA a.kind l (W▸F.ns) g (j _ _ _ _ _ _ h R .refl t)) e
 |some p=>
  rw[q]at d W;refine kN d ?_;clear d;intro G o H g u r;refine Y (r.at f b) ?_;clear r f b;intro val w z;exact ajo (aiA a.kind l (W▸u.ns (R.news.get (aeu _ g))) w (j _ _ _ _ _ _ h R .refl z)) e
noncomputable def aA (n:Nat):Ev:=λc k=>aD .no (lk n c.aK) λi=>aD .no (c.st.get i) λo=>qn .no o λv=>aD .no v λv=>k v c
theorem Uq (f:ak c) (w:g=.cell\/g=.free) (j:c.scope.names[n]?=some (x,g)) (e:cJ x=true):aE c A (.Name x pos) (aA n):=by
 intro I k y h d s L N E R M Q z;have e:=aei.mp e;have l:=(aeT _).mp e.1;have m:=eX f.cW j;refine Y (aR h d) λi B h=>?_
 refine Y (aR h d) λo C h=>?_
 refine Y (vp h d) ?_;clear h;intro v W h;subst W;refine Y (aR h d) ?_;clear h d;intro v W h;subst W;refine cj (R.aK n i B) λP S a D p F=>?_
 cases (aej (j.symm.trans D))
 refine Y (R.of C F) λb r G=>?_
 refine Y G.inv λu t H=>?_
 have q:=z _ _ _ _ _ _ h R .refl H;rcases w with rfl|rfl
 ·exact ajo (wpAny_loadName_cell f.kind m p (ay b (R.get r) t) q) l
 ·exact ajo (wpAny_loadName_free f.kind m p (ay b (R.get r) t) q ((aeT _).mp e.2)) l
theorem R6 (a:ak c){x:Str}{n:Nat}{pos:Pos}{v:O}(f:c.scope.names[n]?=some (x,.globalImplicit)) (b:cJ x=true) (e:W.G.name x=some v):aE c A (.Name x pos) (cC v):=by
 intro o k y h q s d N E R r Q g;simp only[cJ,afd,aeT]at b;refine Y R.fr λm F t=>?_
 have i:=eX a.cW f;refine gH a.top λp u w z T=>?_
 refine Y (a.g.name x v e d N) ?_;clear e;intro val j l;exact ahI a.kind i (loadGlobal_global (env:=c.env) (by rw[a.iE];exact T.g.keeps F.keep) (mg_of a.aZ T.g j) (g _ _ _ _ _ _ h R .refl l)) b.1
theorem jY (a:ak c){x:Str}{n:Nat}(f:c.scope.names[n]?=some (x,.globalImplicit)) (b:cJ x=true) (e:W.G.boot x=true) (g:ah4 x=some v){s:aep}{α N}(R:SR c σ s α N) {Q:ael->aep->Prop}{E:ael->aep->Prop}(h:Q v s):WP W A (eval (.Name x pos) c.env) Q E s:=by
 simp only[cJ,afd,aeT]at b;refine Y R.fr ?_;clear R;intro m F k;have d:=eX a.cW f;refine gH a.top λp l o q T=>?_
 refine ae (a.g.boot x e) ?_;clear e;intro i j;exact ahI a.kind d (loadGlobal_builtin (env:=c.env) (by rw[a.iE];exact T.g.keeps F.keep) (mg_none_of a.aZ T.g i) (by rw[a.qC];exact T.b.keeps F.keep) ((T.builtins x j).trans g) h) b.1
noncomputable def bC (t:Tc) (a b:Ev):Ev:=λc k=>t c λq c=>aex (b c k) (a c k) q
theorem Ur (i:dB c A t j) (l:aE c A a m) (n:aE c A b o):aE c A (.IfExp t a b pos) (bC j m o):=by
 intro p k y h W s r N E R e Q f;refine IfExp_ (i p _ y h W s r N E R e _ λq u v w x h g d=>?_)
 induction q using aen
 ·rw[if_neg (by decide)];exact n _ _ _ h W _ _ _ _ g (e.step d.kp) _ (f.step d)
 ·rw[if_pos rfl];exact l _ _ _ h W _ _ _ _ g (e.step d.kp) _ (f.step d)
noncomputable def Nf (a:O):Option Bool:=O.casesOn (motive_1:=λc=>Option Bool) a (some true) (λc=>some false) (λc=>some false) (λc=>some false) (λc=>some false) (λc=>some false) (λc c=>none) (λc=>some false) (λc=>some false)
 (λf c=>aex (dO (aew f (nat_lit 5)) (some false)) (some false) (aew f (nat_lit 0))) (λc c=>some false) (λc c=>some false) none (λc=>none)
noncomputable def isQ (a b:O):Option Bool:=O.casesOn (motive_1:=λc=>Option Bool) b (Nf a) (λy=>i9 none a λx=>some (x ==y)) (λc=>none) (λc=>none) (λc=>none) (λc=>none) (λc c=>none) (λc=>none) (λc=>none) (λc c=>none) (λc c=>none) (λc c=>none) none (λc=>none)
noncomputable def pj (st:Tr) (a:O):List O->Option Bool:=aeL (some false) λb l c=>ew b (λd d=>none) (ob (lL st (nat_lit 20) b a) (dO (gv (iR st (nat_lit 20)) l) (some true)) c)
noncomputable def xj (x:Str) (a:List (Str×O)):Bool:=ae2 false (λc=>true) (bw x a)
noncomputable def yt (st:Tr) (a:List (Str×O)) (f:List (Str×O)):Option Bool:=aeL (some true) (λe d c=>ae2 (some false) (λy=>aD none (lL st (nat_lit 20) e.2 y) λt=>aD none c λb=>some (and t b)) (bw e.1 a)) f
noncomputable def iF (st:Tr)(a:O):Option (List (Str×O)):=d0 none st a λc o=>ix none o some
noncomputable def tP (st:Tr) (a b:O):Option Bool:=ae2 (lL st (nat_lit 20) a b) (λc=>aD none (iF st b) λd=>aex (some false) (yt st d c) (aew c.length d.length)) (iF st a)
noncomputable def uC (st:Tr) (a b:O):Option Bool:=afM (tP st a b) a λx=>afM (tP st a b) b λy=>some (seq x y)
theorem Wa{st:Tr}{a b:O}:uC st a b=tP st a b:=by
 by_cases h:uC st a b=tP st a b
 ·exact h
 ·refine Y (gD (show afM _ a _=_ from rfl) h) ?_;intro x c d;subst c;refine Y (gD d h) ?_;clear d h;intro y c A;subst c;rfl
noncomputable def lu (x:Str) (l:List O):Bool->Option Bool:=aeL (motive:=λd=>Bool->Option Bool) (λc=>some c) (λb d A c=>afM none b λy=>A (or c (seq y x))) l
theorem FC{st:Tr}{x:Str}:∀ {l:List O}{a t:Bool},lu x l a=some t->gv (iR st (nat_lit 20)) l=true
 |[],g,i,j=>rfl
 |b::l,a,t,h=>by
  refine Y (gD (show afM none b (λy=>lu x l (or a (seq y x)))=_ from h) aO) ?_;clear h;intro y e f;subst e
  exact FC (l:=l) f
theorem EP:∀ {l:List O}{t:Bool},lu x l true=some t->t=true
 |[],t,h=>(aej h).symm
 |b::l,t,h=>by
  refine Y (gD (show afM none b (λy=>lu x l (or true (seq y x)))=_ from h) aO) ?_;clear h;intro y a e;subst a
  exact EP (l:=l) e
theorem FD{st:Tr}{x:Str}:∀ {l:List O}{t:Bool},lu x l false=some t->pj st (.str x) l=some t
 |[],t,h=>h
 |b::l,t,h=>by
  refine Y (gD (show afM none b (λy=>lu x l (or false (seq y x)))=_ from h) aO) ?_;clear h;intro y f a;subst f
  show ob (some (seq y x)) (dO (gv (iR st (nat_lit 20)) l) (some true)) (pj st (.str x) l)=_;induction e:seq y x using aen with
  |true=>
   rw[e]at a;rw[EP a,FC a];rfl
  |false=>
   rw[e]at a;exact FD a
noncomputable def q8 (st:Tr) (a:O) (l:List O):Option Bool:=dO (iR st (nat_lit 20) a) (pj st a l)
noncomputable def rB (st:Tr) (a:O) (l:List O):Option Bool:=afM (q8 st a l) a λx=>ae2 (q8 st a l) some (lu x l false)
theorem Gz{st:Tr}{l:List O}:rB st a l=q8 st a l:=by
 by_cases h:rB st a l=q8 st a l
 ·exact h
 ·refine Y (gD (show afM _ a _=_ from rfl) h) ?_;intro x A d;subst A;induction c:lu x l false using aeB with
  |none=>rw[c]at d;exact absurd d.symm h
  |some t=> show (ae2 (q8 st (.str x) l) some (lu x l false):Option Bool)=pj st (.str x) l;rw[c,FD c]
noncomputable def uD (st:Tr) (a b:O):Option Bool:=Vw.casesOn (vw st b) (λc=>none) (rB st a) (rB st a) (λf c=>dO (aew f (nat_lit 2)) (j4 none a (some false))) (aD none (iF st b) λd=>afM none a λx=>some (xj x d))
noncomputable def xk (o:Option Bool):Option Bool:=aD none o λb=>some (not b)
noncomputable def xl (f:Int->Int->Bool)(a b:O):Option Bool:=dU none a λx=>dU none b λy=>some (f x y)
noncomputable def xm (op:CmpOp) (st:Tr) (a b:O):Option Bool:=match op with
 |.Is=>isQ a b
 |.IsNot=>xk (isQ a b)
 |.Eq=>uC st a b
 |.NotEq=>xk (uC st a b)
 |.In=>uD st a b
 |.NotIn=>xk (uD st a b)
 |.Lt=>xl (λx y=>decide (x<y)) a b
 |.Gt=>xl (λx y=>decide (x>y)) a b
 |.GtE=>xl (λx y=>decide (x ≥ y)) a b
 |_=>none
theorem aU.look{K α N x}{bs abs}(a:aU K α N bs abs):match abs.lookup x with
  |some v=>∃ val,aie bs x=some val/\VR K α N val v
  |none=>aie bs x=none:=by
 induction a with
 |nil=>rfl
 |@cons y c A bs W h r d=>
  rw[afz];by_cases q:x=y
  ·subst q;rw[beq_self_eq_true];exact (ay _ (by unfold aie;rw[List.find?_cons_of_pos (by simp)];rfl) h)
  ·rw[beq_eq_false_iff_ne.mpr q];have e:aie ((y,c)::bs) x=aie bs x:=by unfold aie;rw[List.find?_cons_of_neg (by simpa using λz=>q z.symm)]
   rw[e];exact d
noncomputable def jy (W:Wd) (A:ae6) (s:aep) (E:ael->aep->Prop) (op e:CmpOp) (a b:ael) (t:Bool):Prop:=∀ Q:ael->aep->Prop,((∀ c,Q (.bool t) {s with toks:=c})->WP W A (ahF op a b) Q E s)/\((∀ c,Q (.bool (!t)) {s with toks:=c})->WP W A (ahF e a b) Q E s)
theorem jy.of (h:∀ {Q:ael->aep->Prop},Q (.bool t) s->WP W A (ahF op a b) Q E s) (h':∀ {Q:ael->aep->Prop},Q (.bool (!t)) s->WP W A (ahF e a b) Q E s):jy W A s E op e a b t:=λc=>⟨λk=>h (k s.toks),λk=>h' (k s.toks)⟩
theorem Wb (h:ak c) (l:VR W.kt α N m a) (e:Nf a=some b){E:ael->aep->Prop}:jy W A s E .Is .IsNot m .none b:=by
 have j:∀ {x},some false=some b->jy W A s E .Is .IsNot (.ref x) .none b:=λe=>by obtain rfl:=aej e;exact .of is_ref_none isnot_ref_none
 induction l using VR.casesOn with
 |none=>obtain rfl:=aej e;exact .of is_none_none isnot_none_none
 |bool=>obtain rfl:=aej e;exact .of is_bool_none isnot_bool_none
 |int=>obtain rfl:=aej e;exact .of is_int_none isnot_int_none
 |str=>obtain rfl:=aej e;exact .of is_str_none isnot_str_none
 |@ty p f k q=>
  have d:(aex (dO (aew f 5) (some false)) (some false) (aew f 0):Option Bool)=some b:=e;induction i:aew f 0 using aen with
  |true=>
   rw[i]at d;obtain rfl:=aem i;refine be (h.g.Nb k) λx r g u=>?_
   have q:=(g▸q).inv;rcases q with⟨a,_,_,_,rfl,_⟩|⟨a,_,_,_,rfl,_⟩<;>exact j d
  |false=>
   rw[i]at d;refine ae (fR d) ?_;clear d;intro n d;obtain rfl:=aej d;obtain rfl:=aem n;refine aL (h.g.sk k) ?_;clear h;intro x g;refine Y ((g▸q).inv) ?_;clear q g;intro t o v;subst o;exact .of is_str_none isnot_str_none
 |bR=>exact aT e
 |fk=>exact aT e
 |_=>exact j e
theorem Wc{σ:LS}(m:jh W.kt){l:List O}:∀ {t:Bool},pj σ.st a l=some t->∃ ds,pg W.kt σ.st 40 l ds/\∀ d,DR W.kt σ.st 40 a d->d.canLay0=true->afh ds=true->(ds.any λy=>afS y d)=t:=by
 induction l with
 |nil=>intro t h;exact⟨[],rfl,λA A A A=>aej h⟩
 |cons b l q=>
  intro t h;have h:ew b (λA A=>none) (ob (lL σ.st 20 b a) (dO (gv (iR σ.st 20) l) (some true)) (pj σ.st a l))=some t:=h
  rcases fD b with⟨c,v,rfl⟩|n
  ·exact aT h
  ·have h:=(n _ _).symm.trans h;have go:∀ {o p},lL σ.st 20 b a=some o->(∃ ds,pg W.kt σ.st 40 l ds/\∀ d,DR W.kt σ.st 40 a d->d.canLay0=true->afh ds=true->(o ||ds.any λy=>afS y d)=p)->∃ ds,pg W.kt σ.st 40 (b::l) ds/\∀ d,DR W.kt σ.st 40 a d->d.canLay0=true->afh ds=true->(ds.any λy=>afS y d)=p:=λg i=>by
    refine aH (Aq m 20 _ _ _ g) λs z u w x=>?_
    refine Y i ?_;clear i;intro ds r f;refine (ay (s::ds) ((nY n).trans ?_) (λd j k e=>?_))
    ·rw[show toD W.kt σ.st 40 b=_ from u,show dL _ _ l=_ from r];rfl
    ·have e:=aei.mp ((PL _ _).symm.trans e);obtain rfl:=aej (w.symm.trans j);rw[afA,x e.1 k];exact f _ j k e.2
   rcases zV h with⟨g,h⟩|⟨g,h⟩
   ·refine ae (fR h) ?_;clear h;intro i h;refine aL (Gw (nZ m 20) i) ?_;clear i;intro ds r;exact go g (ay ds r (λA A A A=>(Bool.true_or _).trans (aej h)))
   ·refine Y (q h) ?_;clear m h;intro ds r f;exact go g (ay ds r (λd j k e=>(ajU _).trans (f d j k e)))
noncomputable def wj (a b:O):Bool:=O.casesOn (motive_1:=λc=>Bool) a (j4 false b true) (λx=>i9 false b λy=>x ==y) (λc=>false) (λx=>afM false b λy=>seq x y) (λc=>false) (λc=>false) (λc c=>false) (λc=>false) (λx=>qu false b λy=>aew x y)
 (λc c=>false) (λc c=>false) (λc c=>false) false (λc=>false)
theorem ER (h:wj a b=true):a=b:=by
 have c:true≠false:=nofun;induction a using O.casesOn with
 |none=>exact (nL h c).1.symm
 |bool=>refine Y (pT h c) ?_;intro y d A;subst d;exact congrArg _ (eq_of_beq A)
 |str=>refine Y (gD h c) ?_;intro y d A;subst d;exact congrArg _ (gG.mp A)
 |glob=>refine Y (vu h c) ?_;clear c;intro y d A;subst d;exact congrArg _ (aem A)
 |_=>exact aX h
noncomputable def iS{b:Type}(z:b) (l:List O) (f:O->b):b:=aeC l z λa l=>aeC l (f a) λc c=>z
theorem jc{b:Type}{z y₀:b}{f:O->b}(h:iS z l f=y₀)(e:y₀≠z):∃ a,l=[a]/\f a=y₀:=by
 induction l using aeC with
 |nil=>exact absurd h.symm e
 |cons a l=>induction l using aeC with
  |nil=>exact⟨a,rfl,h⟩
  |cons=>exact absurd h.symm e
noncomputable def Br (g:O->O->Bool) (a b:O):Bool:=cF (wj a b) a λl=>iS false l λx=>cF false b λr=>iS false r λy=>g x y
theorem FE{g:O->O->Bool}(f:∀ {x y},g x y=true->x=y) (h:Br g a b=true):a=b:=by
 by_cases q:true=wj a b
 ·exact ER q.symm
 ·have d:true≠false:=nofun;refine Y (dP h q) ?_;clear h q;intro l c A;subst c;refine Y (jc A d) ?_;clear A;intro x c W;subst c;refine Y (dP W d) ?_;clear W;intro r c e;subst c;refine Y (jc e d) ?_;clear e d;intro y c i;subst c;rw[f i]
noncomputable def xn:O->O->Bool:=Br (Br wj)
theorem Us (h:xn a b=true):a=b:=FE (FE ER) h
noncomputable def join (a b:Rs):Rs:=Rs.casesOn a (λv=>Rs.casesOn b (λc=>aN .no (xn v c) (.ok v)) (λd=>.no) .no) (λC=>Rs.casesOn b (λd=>.no) (λA=>aN .no (aew C A) (.exc C)) .no) .no
theorem md (h:join a b=y) (f:y≠.no):a=y/\b=y:=by
 induction a using Rs.casesOn with
 |ok v=>induction b using Rs.casesOn with
  |ok d=>refine ae (aS h f) ?_;intro e c;subst c;rw[Us e];exact⟨rfl,rfl⟩
  |_=>exact bO h f
 |exc C=>induction b using Rs.casesOn with
  |exc A=>refine ae (aS h f) ?_;intro e c;subst c;rw[aem e];exact⟨rfl,rfl⟩
  |_=>exact bO h f
 |no=>exact bO h f
theorem zJ(a:aP c d A):A.units+64<cLine:=by have:=a.units;show _<9900;omega
theorem Ek(a:aP c d A):A.units+200<cLine:=by have:=a.units;show _<9900;omega
theorem P9(a:aP c d A):A.in1.units+64<cLine:=by
 have h:=a.units;have W:A.in1.units<=A.units+1:=aeD _;have b:cLine=9900:=rfl;omega
theorem DR.read{σ:LS}(R:SR c σ s α N){d:afs}{v:ael}(h:DR W.kt σ.st 40 a d) (b:VR W.kt α N v a):(∃ e,Reads s.heap v d e)/\d.canLay0=true/\SeqAt.shaped d=true:=
 (bU (h.reads R b) λf A g=>(bH f A (aei.mpr ⟨A,decide_eq_true (aeE g (by decide))⟩)))
theorem El (h:aiB (.tuple a)<=n):ahp a<=n:=by simp only[aiB]at h;omega
theorem Em (h:aiB (.list a)<=n):ahp a<=n:=by simp only[aiB]at h;omega
theorem room_in(a:A.units+200<cLine)(h:x<=41):A.units+1+min x y<cLine:=by
 have:min x y<=x:=Nat.min_le_left _ _;omega
theorem As (r:ak c) (z:aP c d A) (R:SR c σ s α N) (w:VR W.kt α N B a) (u:VR W.kt α N C b) (g:vw σ.st b=.tup l\/vw σ.st b=.lst l) (h:q8 σ.st a l=some t):jy W A s E .In .NotIn B C t:=by
 refine ae (fR h) ?_;clear h;intro x h;refine aL (nZ r.g.tok 20 _ x) ?_;clear x;intro y v;refine bU (v.reads R w) ?_;clear w;intro j i F;obtain⟨G,o⟩:=j;refine Y (Wc r.g.tok h) ?_;clear r h;intro H q f;have p:=Ek z;rcases g with g|g
 ·refine bU ((DR.Gv g q).reads R u) λj e m=>?_;obtain⟨D,n⟩:=j
  have e:=(zc _).symm.trans e;obtain rfl:=f y v i e;exact .of (λk=>SeqAt.in_tuple_reads n o e i (room_in p (El m)) k) (λk=>SeqAt.notIn_tuple_reads n o e i (room_in p (El m)) k)
 ·refine bU ((DR.Ap g q).reads R u) ?_;clear R g q u;intro j e m;obtain⟨D,n⟩:=j;have e:=(zg _).symm.trans e;obtain rfl:=f y v i e;exact .of (λk=>SeqAt.in_list_reads n o e i (room_in p (Em m)) k) (λk=>SeqAt.notIn_list_reads n o e i (room_in p (Em m)) k)
theorem aU.len0:∀ {bs:List (Str×ael)}{a},aU T α N bs a->bs.length=a.length
 |_,_,.nil=>rfl
 |_,_,.cons _ r=>congrArg (·+1) r.len0
theorem aU.find (h:aU T α N bs a):(∃ v val,bw x a=some v/\aie bs x=some val/\VR T α N val v)\/(bw x a=none/\aie bs x=none):=by
 have q:=h.look (x:=x);rw[sI];induction e:a.lookup x using aeB with
 |some v=>rw[e]at q;refine Y q ?_;clear q;intro val c d;exact .inl ⟨v,val,rfl,c,d⟩
 |none=>rw[e]at q;exact .inr ⟨rfl,q⟩
theorem We (u:aP c d A) (w:jh W.kt) (R:SR c σ s α N) (z:aU W.kt α N j a):∀ {t:Bool},aU W.kt α N g i->yt σ.st a i=some t->KeqHits A.in1 s j g t:=by
 suffices B:aU W.kt α N g i->∀ {t:Bool},yt σ.st a i=some t->KeqHits A.in1 s j g t from fun{t}h=>B h
 intro C;induction C with
 |nil=>intro t e;have f:=aej e;clear e;subst t;exact .nil
 |@cons k v D E F l r G=>
  intro t e;have e:(ae2 (some false) (λy=>aD none (lL σ.st 20 D y) λt=>aD none (yt σ.st a F) λb=>some (and t b)) (bw k a):Option Bool)=some t:=e
  rcases z.find (x:=k) with⟨y,val,h,H,m⟩|⟨h,q⟩
  ·rw[h]at e;refine Y (aR e aO) ?_;clear e;intro X n e;refine Y (aR e aO) ?_;clear e;intro b I e;obtain rfl:=aej e;refine aH (Aq w 20 _ _ _ n) ?_;clear n;intro Z db o p L;refine bU (o.read R l) ?_;clear o l;intro f M P;obtain⟨as,Q⟩:=f;refine bU (p.read R m) ?_;clear p m;intro f S T;obtain⟨E,V⟩:=f;exact .hit H (L M S▸keq_at (A:=A) Q V P T (P9 u)) (G I)
  ·rw[h]at e;obtain rfl:=aej e;exact .miss q
theorem ES{st:Tr}:∀ {l:List Str},pj st .none (l.map .str)=some false
 |[]=>rfl
 |x::l=>ES (l:=l)
theorem Hg (g:ak c) (p:aP c d A) (R:SR c σ s α N) (i:VR W.kt α N B a) (j:VR W.kt α N r b) (e:uD σ.st a b=some t){E}:jy W A s E .In .NotIn B r t:=by
 have go:∀ v,vw σ.st b=v->(Vw.casesOn v (λu=>none) (rB σ.st a) (rB σ.st a) (λf u=>dO (aew f (nat_lit 2)) (j4 none a (some false))) (aD none (iF σ.st b) λw=>afM none a λC=>some (xj C w)):Option Bool)=some t->jy W A s E .In .NotIn B r t:=λv m e=>by
  induction v using Vw.casesOn with
  |sc=>exact aT e
  |tup n=>exact As g p R i j (.inl m) (Gz.symm.trans e)
  |lst n=>exact As g p R i j (.inr m) (Gz.symm.trans e)
  |tok f k=>
   refine ae (fR e) ?_;clear e;intro H e;refine ae (nL e aO) ?_;clear e;intro I;subst I;intro e;obtain rfl:=aej e;obtain rfl:=aem H;have L:b=.ty 2 k:=Gu m;subst L;refine aL (g.g.reg k) λn M=>?_
   exact As g p R i (show VR W.kt α N r (.hl (n.map .str)) from M▸j.inv) (l:=n.map .str) (.inr rfl) ES
  |bad=>
   refine Y (aR e aO) ?_;clear e;intro w y e;have y:d0 none σ.st b (λu o=>ix none o some)=some w:=y
   revert m;refine kH R j y aO λC P Q lo D S T u=>?_
   obtain rfl:=aej T;refine gE i e aO λk F X Z e=>?_
   obtain rfl:=aej e;have G:(aie Q k).isSome=xj k P:=by
    unfold xj;rcases S.find (x:=k) with⟨qa,val,h,V,q2⟩|⟨h,q⟩
    ·rw[h,V];rfl
    ·rw[h,q];rfl
   exact λqb=>⟨λz=>wpAny_in_of (ag7 W.prog W.w k F) lo D.mapOf (G▸z _),λz=>wpAny_notIn_of (ag7 W.prog W.w k F) lo D.mapOf (G▸z _)⟩
 exact go _ rfl e
theorem Ut (g:ak c) (h:aP c d A) (R:SR c σ s α N) (i:VR W.kt α N r a) (j:VR W.kt α N u b) (e:lL σ.st 20 a b=some t):jy W A s E .Eq .NotEq r u t:=by
 refine aH (Aq g.g.tok 20 _ _ _ e) ?_;clear g e;intro y z l m v;refine bU (l.read R i) ?_;clear l i;intro f w n;obtain⟨B,o⟩:=f;refine bU (m.read R j) ?_;clear R m j;intro f x p;obtain⟨C,q⟩:=f;obtain rfl:=v w x;exact .of (λk=>eq_dataH o q n p (zJ h) k) (λk=>ne_dataH o q n p (zJ h) k)
theorem Hh (p:ak c) (l:aP c d A) (R:SR c σ s α N) (u:VR W.kt α N G a) (v:VR W.kt α N H b) (e:uC σ.st a b=some t):jy W A s E .Eq .NotEq G H t:=by
 rw[Wa]at e;unfold tP at e;induction m:iF σ.st a using aeB with
 |none=>rw[m]at e;exact Ut p l R u v e
 |some T=>
  rw[m]at e;refine Y (aR e aO) ?_;clear e;intro V I e;refine kH R u m aO λx L n lo f w M=>?_
  obtain rfl:=aej M;refine kH R v I aO λX P o g h y Q=>?_
  obtain rfl:=aej Q;have i:A.units<cLine:=agg (ae0 _ _) (zJ l);have B:=w.len0;have C:=y.len0;induction j:aew L.length P.length using aen with
  |true=>
   rw[j]at e;have D:=We l p.g.tok R y w e;have z:(n.length ==o.length&&t)=t:=by rw[B,C,aem j,beq_self_eq_true,Bool.true_and]
   exact .of (λk=>keq_eq lo g f h i (λS=>D) (z.symm▸k)) (λk=>keq_ne lo g f h i (λS=>D) (z.symm▸k))
  |false=>
   rw[j]at e;obtain rfl:=aej e;have F:¬ n.length=o.length:=λz=>ain j (B.symm.trans (z.trans C))
   have z:(n.length ==o.length&&false)=false:=Bool.and_false _;exact .of (λk=>keq_eq (r:=false) lo g f h i (λq=>absurd q F) (z.symm▸k)) (λk=>keq_ne (r:=false) lo g f h i (λq=>absurd q F) (z.symm▸k))
theorem Hi(g:ak c)(f:VR W.kt α N h a)(i:VR W.kt α N j b)(e:isQ a b=some t):jy W A s E .Is .IsNot h j t:=by
 induction i using VR.casesOn with
 |none=>exact Wb g f e
 |bool y=>
  refine zo f e aO λx d e=>?_
  obtain rfl:=aej e;exact .of is_bool isnot_bool
 |_=>exact aT e
theorem Au (l:ak c) (m:aP c d A) (F:jh W.kt) (R:SR c σ s α N) (i:VR W.kt α N n a) (j:VR W.kt α N p b) (e:xm op σ.st a b=some t) {Q:ael->aep->Prop}(h:∀ tk,Q (.bool t) {s with toks:=tk}):WP W A (ahF op n p) Q E s:=by
 have q:∀ {op}{f:Int->Int->Bool},xl f a b=some t->(∀ x y t r,WP W A (ahF op (.int x t) (.int y r)) (λv B=>v=.bool (f x y)/\B=s) E s)->WP W A (ahF op n p) Q E s:=λe k=> i4 i e aO λx r g e=>i4 j e aO λy C g e=>afN (k x y r C) (λg g z=>by rw[z.1,z.2,aej e];exact h s.toks) λg g z=>z
 have u:∀ {o:Option Bool}{op w},xk o=some t->(∀ {t},o=some t->jy W A s E op w n p t)->WP W A (ahF w n p) Q E s:=λe k=>by refine Y (aR e aO) ?_;clear e;intro b D e;obtain rfl:=aej e;exact (k D Q).2 h
 induction op using CmpOp.casesOn with
 |Is=>exact (Hi l i j e Q).1 h
 |IsNot=>exact u e λe=>Hi l i j e
 |Eq=>exact (Hh l m R i j e Q).1 h
 |NotEq=>exact u e λe=>Hh l m R i j e
 |In=>exact (Hg l m R i j e Q).1 h
 |NotIn=>exact u e λe=>Hg l m R i j e
 |Lt=>exact q e λx y g g=>PyProof.Rows.lt_int ⟨rfl,rfl⟩
 |Gt=>exact q e λx y g g=>PyProof.Rows.gt_int ⟨rfl,rfl⟩
 |GtE=>exact q e λx y g g=>PyProof.Rows.ge_int ⟨rfl,rfl⟩
 |_=>exact aT e
noncomputable def c6 (op:CmpOp) (a b:Ev):Ev:=λc k=>a c λd c=>b c λA c=>aD .no (xm op c.st d A) λt=>k (.bool t) c
noncomputable def au (op:CmpOp) (a b:Ev):Tc:=λc k=>a c λd c=>b c λA c=>aD .no (xm op c.st d A) λt=>k t c
theorem FF (l:ak c) (m:aP c d A) (n:jh W.kt) (o:afH op b=false) (p:aE c A a q) (r:aE c A b u):aE c A (.Compare a [op] [b] pos) (c6 op q u):=by
 intro v k y h e s w N E R f Q x;refine wpAny_Compare1 ?_ o;refine p v _ y h e s w N E R f _ λF G H I L M h z g B=>?_
 refine r _ _ _ h e _ _ _ _ z (f.step g.kp) _ λP S T V X Z h i j C=>?_
 refine Y (aR h e) ?_;clear h e;intro t D h;exact Au l m n i (B.mono j.ge) C D λtk=>x _ _ _ _ _ _ h i.toks (g.trans j) (.bool _)
theorem zW (l:ak c) (m:aP c d A) (n:jh W.kt) (o:afH op b=false) (p:aE c A a q) (r:aE c A b u):dB c A (.Compare a [op] [b] pos) (au op q u):=by
 intro v k y h e s w N E R f Q x;refine ahz ?_ o;refine p v _ y h e s w N E R f _ λF G H I L M h z g B=>?_
 refine r _ _ _ h e _ _ _ _ z (f.step g.kp) _ λP S T V X Z h i j C=>?_
 refine Y (aR h e) ?_;clear h e;intro t D h;exact Au l m n i (B.mono j.ge) C D λtk=>afW (x _ _ _ _ _ h i.toks (g.trans j))
theorem R8 (a:ak c) (g:VR W.kt α N val (.ty f k)) (e:aew f 7=true):∃ b,val=.bool b:=by
 obtain rfl:=aem e;refine aL (a.g.tb k) ?_;clear a;intro b e;exact⟨b,(e▸g.inv:VR W.kt α N val (.bool b)).inv⟩
noncomputable def bV (v:O) (kt kf:Rs):Rs:=i9 (iK .no v λf c=>aN .no (aew f (nat_lit 7)) (join kt kf)) v λq=>aex kf kt q
theorem AN (i:ak c) (j:VR W.kt α N val v) (a:y≠.no) (h:bV v kt kf=y):∃ q,val=.bool q/\(aex kf kt q:Rs)=y:=by
 by_cases g:y=iK .no v λf m=>aN .no (aew f 7) (join kt kf)
 ·refine be (jX g.symm a) ?_;intro f k A d;subst A;refine ae (aS d a) ?_;clear d;intro e d;refine ae (md d a) ?_;clear d a;intro d l;refine aL (R8 i j e) ?_;clear i e;intro b A;subst A;exact (ay b rfl (by induction b using aen;exact l;exact d))
 ·refine Y (pT h g) ?_;clear h g a;intro q A d;subst A;exact (ay q j.inv d)
noncomputable def Bs (v:O) (σ:LS) (k:Bool->LS->Rs):Rs:=j4 (bV v (k true σ) (k false σ)) v (k false σ)
theorem FH (g:ak c) (h:Bs v σ k=y) (a:y≠.no) (R:SR c σ s α N) (i:VR W.kt α N val v){Q:Bool->aep->Prop}(j:rA c y σ α N k Q):WP W A (truthy val) Q E s:=by
 by_cases d:y=bV v (k true σ) (k false σ)
 ·refine Y (AN g i a d.symm) ?_;clear g a;intro q b f;subst b;exact afW (j _ _ _ _ _ (by induction q using aen<;>exact f) R .refl)
 ·refine ae (nL h d) ?_;clear h d a;intro b f;subst b;have e:val=.none:=i.inv;subst e;exact truthy_none (j _ _ _ _ _ f R .refl)
noncomputable def zX(e:aeM):Bool:=match e with
 |.Name ..|.Call ..|.Subscript ..|.Attribute ..|.Constant ..=>true
 |_=>false
noncomputable def cH(a:Ev):Tc:=λc k=>a c λv c=>Bs v c k
theorem GA (b:ak c) (f:zX e=true) (g:aE c A e i):dB c A e (cH i):=by
 intro j k y h d s l N E R m Q n;have q:WP W A (eval e c.env) (λv a=>WP W A (truthy v) Q E a) E s:=g j _ y h d s l N E R m _ λv t val a u w h o p r=>FH b h d o r (n.step p)
 induction e using afK<;>first|exact absurd f aeY|exact isTrue_plain q
noncomputable def fc (a:Tc):Tc:=λc k=>a c λb c=>k (not b) c
theorem FI (a:dB c A x e):dB c A (.UnaryOp .Not x pos) (fc e):=by
 intro d k y h W s f N E R g Q i;exact isTrue_not (a d _ y h W s f N E R g _ λb m n o p h j l=>i _ _ _ _ _ h j l)
noncomputable def bo:Tc:=λc k=>k true c
noncomputable def dQ:Tc:=λc k=>k false c
noncomputable def c8 (a b:Tc):Tc:=λc k=>a c λq c=>aex (k false c) (b c k) q
noncomputable def bI (a b:Tc):Tc:=λc k=>a c λq c=>aex (b c k) (k true c) q
theorem R9:dB c A (.BoolOp .And [] pos) bo:=λW k y h a s b N E R e Q d=>isTrue_and_nil (d _ _ _ _ _ h R .refl)
theorem QP:dB c A (.BoolOp .Or [] pos) dQ:=λW k y h a s b N E R e Q d=>isTrue_or_nil (d _ _ _ _ _ h R .refl)
theorem Uu (f:dB c A x g) (i:dB c A (.BoolOp .And rest pos) j):dB c A (.BoolOp .And (x::rest) pos) (c8 g j):=by
 intro l k y h W s m N E R a Q b;refine isTrue_and (f l _ y h W s m N E R a _ λq n o p r h e d=>?_)
 induction q using aen
 ·exact b _ _ _ _ _ h e d
 ·rw[if_pos rfl];exact i _ _ _ h W _ _ _ _ e (a.step d.kp) _ (b.step d)
theorem Wg (f:dB c A x g) (i:dB c A (.BoolOp .Or rest pos) j):dB c A (.BoolOp .Or (x::rest) pos) (bI g j):=by
 intro l k y h W s m N E R a Q b;refine isTrue_or (f l _ y h W s m N E R a _ λq n o p r h e d=>?_)
 induction q using aen
 ·rw[if_neg (by decide)];exact i _ _ _ h W _ _ _ _ e (a.step d.kp) _ (b.step d)
 ·exact b _ _ _ _ _ h e d
noncomputable def Bt (a:Ev):Ev:=λc k=>a c λv c=>Bs v c λb c=>k (.bool (not b)) c
theorem Uv (a:ak c) (e:aE c A x f):aE c A (.UnaryOp .Not x pos) (Bt f):=by
 intro W k y h d s g N E R i Q j;refine UnaryOp_ ?_;refine e W _ y h d s g N E R i _ λv q val r t u h l m n=>?_
 exact not_of (FH a h d l n λb w z B C h o p=>j _ _ _ _ _ _ h o (m.trans p) (.bool _))
noncomputable def oN (a b:Ev):Ev:=λc k=>a c λv c=>bV v (b c k) (k (.bool false) c)
noncomputable def lN (a b:Ev):Ev:=λc k=>a c λv c=>bV v (k (.bool true) c) (b c k)
theorem Uw (a:ak c) (l:aE c A x m) (n:aE c A (.BoolOp .And (z::rest) pos) b):aE c A (.BoolOp .And (x::z::rest) pos) (oN m b):=by
 intro o k y h d s p N E R e Q f;refine BoolOp_and ?_;refine l o _ y h d s p N E R e _ λv g val t u w h i W j=>?_
 refine Y (AN a j d (kt:=b g k) (kf:=k (.bool false) g) h) ?_;clear a j h;intro q r h;subst r;refine afW ?_;induction q using aen
 ·exact f _ _ _ _ _ _ h i W (.bool _)
 ·rw[if_pos rfl];exact n _ _ _ h d _ _ _ _ i (e.step W.kp) _ (f.step W)
theorem Wh (a:ak c) (l:aE c A x m) (n:aE c A (.BoolOp .Or (z::rest) pos) b):aE c A (.BoolOp .Or (x::z::rest) pos) (lN m b):=by
 intro o k y h d s p N E R e Q f;refine BoolOp_or ?_;refine l o _ y h d s p N E R e _ λv g val t u w h i W j=>?_
 refine Y (AN a j d (kt:=k (.bool true) g) (kf:=b g k) h) ?_;clear a j h;intro q r h;subst r;refine afW ?_;induction q using aen
 ·rw[if_neg (by decide)];exact n _ _ _ h d _ _ _ _ i (e.step W.kp) _ (f.step W)
 ·exact f _ _ _ _ _ _ h i W (.bool _)
theorem Sa (a:aE c A x b):aE c A (.BoolOp op [x] pos) b:=
 λd k y h W s e N E R f Q g=>BoolOp_one (a d k y h W s e N E R f Q g)
noncomputable def aI:ec:=λc k=>k [] c
noncomputable def bg (a:Ev) (r:ec):ec:=λc k=>a c λv c=>r c λl c=>k (v::l) c
theorem i7(h:VR T α N v a):a.sure=true:=by induction a using O.casesOn<;>first|rfl|exact h.inv.elim
theorem vM (h:VR T α N v a)(b:ae1 l=true):ae1 (a::l)=true:=aei.mpr ⟨i7 h,b⟩
theorem fz (h:aeH e=false):agN (e::a) env=(false,eval e env)::agN a env:=by
 induction e using afK<;>first|rfl|exact gr h
theorem nM:gL c A [] aI:=λW k y h a s b N E R e f Q d=>ahf (d _ _ _ _ _ _ h R .refl .nil rfl)
theorem jR (i:aeH e=false) (j:aE c A e m) (n:gL c A o p):gL c A (e::o) (bg m p):=by
 intro q k y h d s r N E R W t Q u;refine agq (j q _ y h d s r N E R W _ λa B C D F G h v b f=>?_) (fz i)
 refine n _ _ _ h d _ _ _ _ v (W.step b.kp) t _ λl H I L M P h w g x z=>?_
 exact u _ _ _ _ _ _ h w (b.trans g) (.cons (f.mono g.ge) x) (vM f z)
theorem Sb (e:ak c) (R:SR c σ s α N) (h:ah W.kt α N vs f) (l:f.length<=1000){Q:ael->aep->Prop}{E:ael->aep->Prop} (k:∀ v i b a,SR c σ i b a->bh σ α N σ b a->VR W.kt b a v (.tup f)->Q v i):WP W A (newTuple vs) Q E s:=by
 refine Y R.fr λm F d=>?_
 have n:vs.length<=sizeLine:=aeE h.le (aeE l (by decide))
 refine newTuple_N F R.news (λp j a=>?_) n
 refine ae (R.hidden e (t:=s.toks) d j a) ?_;clear e d j a;intro o g;exact k _ _ _ _ o g (.tup (.head _) R.away ⟨rfl,rfl⟩ rfl (h.mono g.ge))
theorem QQ (f:ak c) (R:SR c σ s α N) (i:σ.room=true) (h:ah W.kt α N vs b) (n:b.length<=1000){Q:ael->aep->Prop}{E:ael->aep->Prop} (k:∀ v j e a,SR c (σ.push (.list b)) j e a->bh σ α N (σ.push (.list b)) e a->VR W.kt e a v (.ref σ.n)->Q v j):WP W A (newList vs) Q E s:=by
 refine Y R.fr λm F d=>?_
 have o:vs.length<=sizeLine:=aeE h.le (aeE n (by decide))
 refine newList_N F R.news (λq l a=>?_) o
 refine ae (R.add f i (t:=s.toks) (ao:=.list b) d l a λst=>.list (h.mono st.ge)) ?_;clear f i d l a h;intro p g
 exact k _ _ _ _ p g (.ref (kG R.len))
theorem Ux (e:ak c) (R:SR c σ s α N) (h:ah W.kt α N vs f) (l:f.length<=1000){Q:ael->aep->Prop}{E:ael->aep->Prop} (k:∀ v i b a,SR c σ i b a->bh σ α N σ b a->VR W.kt b a v (.hl f)->Q v i):WP W A (newList vs) Q E s:=by
 refine Y R.fr λm F d=>?_
 have n:vs.length<=sizeLine:=aeE h.le (aeE l (by decide))
 refine newList_N F R.news (λp j a=>?_) n
 refine ae (R.hidden e (t:=s.toks) d j a) ?_;clear e d j a;intro o g;exact k _ _ _ _ o g (.hl (.head _) R.away (h.mono g.ge))
noncomputable def short (l:List O):Bool:=wi l (nat_lit 1000)
noncomputable def ai (a:ec):Ev:=λc k=>a c λl c=>aN .no (short l) (k (.tup l) c)
theorem Uy (a:ak c) (b:gL c A f g):aE c A (.Tuple f u pos) (ai g):=by
 intro W k y h d s i N E R j Q m;refine Tuple_ (b W _ y h d s i N E R j _ _ λl w x z B C h n o p D=>?_)
 refine ae (aS h d) ?_;clear h d;intro e h;exact Sb a n p (i5 e) λv F G H q r t=>m _ _ _ _ _ _ h q (o.trans r) t
noncomputable def eh (a:ec):Ev:=λc k=>a c λl c=>aN .no (and (short l) c.room) (k (.ref c.n) (c.push (.list l)))
theorem ET (a:ak c) (b:gL c A f g):aE c A (.List f pos) (eh g):=by
 intro W k y h d s i N E R j Q m;refine List_ (b W _ y h d s i N E R j _ _ λl x z B C D h n o p F=>?_)
 refine ae (aS h d) ?_;clear h d;intro e h;refine ae (aei.mp e) ?_;clear e;intro q r;exact QQ a n r p (i5 q) λv G H I t u w=>m _ _ _ _ _ _ h t (o.trans u) w
noncomputable def aY (a:ec):Ev:=λc k=>a c λl c=>aN .no (short l) (k (.hl l) c)
theorem Wi (a:ak c) (b:gL c A f g):aE c A (.List f pos) (aY g):=by
 intro W k y h d s i N E R j Q m;refine List_ (b W _ y h d s i N E R j _ _ λl u w x z B h n o p C=>?_)
 refine ae (aS h d) ?_;clear h d;intro e h;exact Ux a n p (i5 e) λv D F G q r t=>m _ _ _ _ _ _ h q (o.trans r) t
noncomputable def aF:Sc:=λc kn d=>kn c
noncomputable def eQ (a b:Sc):Sc:=λc kn d=>a c (λc=>b c kn d) d
theorem qp:cA c A [] aF:=λW kn a y h b s e N E R f Q d g=>ahq (d _ _ _ _ h R .refl)
theorem jZ{st:afD}{b e}(j:bQ c A st b) (k:cA c A l e):cA c A (st::l) (eQ b e):=by
 intro m kn w y h f s n N E R g Q o i;refine agx (j m _ _ y h f s n N E R g _ (λp q r t h W d=>?_) λa p v q r t h W d u=>?_)
 ·exact k _ _ _ _ h f _ _ _ _ W (g.step d.kp) _ (o.step d) (i.step d)
 ·exact i _ _ _ _ _ _ h W d u
noncomputable def aG(e:Ev):Sc:=λc A d=>e c d
theorem vN (b:aE c A e f):bQ c A (.Return (some e) pos) (aG f):=by
 intro d kn n y h W s g N E R i Q o j;exact wpAny_Return_some (b d _ y h W s g N E R i _ λa p v q r t h k l m=>j _ _ _ _ _ _ h k l.toSts m)
noncomputable def wk:Sc:=λc A d=>d .none c
theorem Sd:bQ c A (.Return none pos) wk:=by
 intro W kn a y h b s e N E R f Q g d;exact wpAny_Return_none (d _ _ _ _ _ _ h R .refl .none)
noncomputable def aB (t:Tc) (a b:Sc):Sc:=λc kn d=>t c λq c=>aex (b c kn d) (a c kn d) q
theorem sJ (j:dB c A t k) (l:cA c A a m) (n:cA c A b o):bQ c A (.If t a b pos) (aB k m o):=by
 intro p kn u y h W s r N E R e Q f g;refine wpAny_If (j p _ y h W s r N E R e _ λq v w x z h i d=>?_)
 induction q using aen
 ·rw[if_neg (by decide)];exact n _ _ _ _ h W _ _ _ _ i (e.step d.kp) _ (f.step d.toSts) (g.step d.toSts)
 ·rw[if_pos rfl];exact l _ _ _ _ h W _ _ _ _ i (e.step d.kp) _ (f.step d.toSts) (g.step d.toSts)
theorem Se:bQ c A (.Pass pos) aF:=λW kn a y h b s e N E R f Q d g=>wpAny_Pass (d _ _ _ _ h R .refl)
noncomputable def eI:aeM->Bool
 |.Call (.Name id a) [] [] b=>id !=("super" :Str)
 |_=>true
theorem DP(h:eI o=true)(b:Str)(env:Env)(a:Sem ael):attributeBase o b env a=a:=by
 induction o using afK with
 |Call f c d A=>induction f using afK with
  |Name id p=>induction c using aeC with
   |nil=>induction d using aeC with
    |nil=> have e:(id !=("super" :Str))=true:=h;show(if _ then _ else _)=_;rw[if_pos];rw[e];rfl
    |cons=>rfl
   |cons=>rfl
  |_=>rfl
 |_=>rfl
theorem FJ (h:eI o=true){Q:ael->aep->Prop}{E:ael->aep->Prop}
  (k:WP W A (eval o env) (λv b=>WP W A (getAttr v a true) Q E b) E s):WP W A (eval (.Attribute o a pos) env) Q E s:=by
 refine Attribute_any_ k ?_
 show (do
  let c←attributeBase o a env (eval o env)
  standAt pos.atName
  let r←holding [c] (getAttr c a true)
  letTemporaryGo o c r
  pure r)=_
 rw [DP h]
noncomputable def cM (n:Nat) (l:List Nat):Bool:=aeL false (λa d c=>aex c true (aew n a)) l
theorem nQ:∀ {l:List Nat},cM n l=true->n∈l
 |[],h=>absurd h aeY
 |a::l,h=>by
  have h':aex (motive:=λb=>Bool) (cM n l) true (aew n a)=true:=h
  induction q:aew n a using aen with
  |true=>rw[aem q];exact .head _
  |false=>rw[q]at h';exact .tail _ (nQ h')
theorem iy:∀ {l:List Nat},cM n l=false->n∉l
 |[],f,h=>nomatch h
 |a::l,h,b=>by
  have h':aex (motive:=λg=>Bool) (cM n l) true (aew n a)=false:=h
  induction q:aew n a using aen with
  |true=>rw[q]at h';exact gr h'
  |false=>
   rw[q]at h';rcases aeA.mp b with e|b
   ·rw[e,afI]at q;exact gr q
   ·exact iy h' b
@[elab_as_elim]theorem vx (R:SR c σ s α N){p:Type}{z y₀:p}{f:Nat->aez->List (Str×O)->p}{M:ael->Prop}(q:VR W.kt α N v a) (h:d0 z σ.st a (λi o=>mj z o (f i))=y₀) (m:y₀≠z) (k:∀ i C e x j g l n,a=.ref i->σ.st.get i=some (.obj C e)->i=j+1->(x,ahy C g)∈N->α[j]?=some g->(g,afY l n)∈N->bM W.w.params W.kt α N l e->f i C e=y₀->M (.ref x)):M v:=
 ma R q h m λi x b o r t u w A h=>by refine be (Ej h m) ?_;clear h m;intro C e d h;subst d;refine ir A.inv ?_;clear A t;intro j g l n d y B D E;subst d;exact k i C e x j g l n r w y u B D E h
theorem En (b:ak c) (R:SR c σ s α N) (h:VR W.kt α N v a):ah1 v=true:=by
 induction h using VR.casesOn with
 |ty q=>
  rename_i f k;refine aL (b.g.tok f k σ.st) ?_;clear b;intro d A;refine bU (A.reads R q) ?_;clear R A q;intro e g g;obtain⟨i,r⟩:=e
  cases r<;>rfl
 |bR h=>exact h
 |_=>rfl
theorem bM.find (h:bM P T α N b aes):(∃ a v,bw x aes=some a/\agB x b=some (some v)/\VR T α N v a)\/(bw x aes=none/\agB x b=some none):=by
 have q:=h.getL (x:=x);rw[sI];induction e:aes.lookup x using aeB with
 |some a=>rw[e]at q;refine Y q ?_;clear q;intro v c d;exact .inl ⟨a,v,rfl,c,d⟩
 |none=>rw[e]at q;exact .inr ⟨rfl,q⟩
theorem bM.at (h:bM P T α N b aes)(e:bw x aes=some a):∃ v,agB x b=some (some v)/\VR T α N v a:=by
 rcases h.find (x:=x)with⟨d,v,c,q⟩|⟨c,_⟩
 ·have A:=aej (e.symm.trans c);subst d;exact⟨v,q⟩
 ·cases e.symm.trans c
theorem bM.no (h:bM P T α N a aes)(e:bw x aes=none):agB x a=some none:=by
 rcases h.find (x:=x)with⟨d,v,c,q⟩|⟨_,q⟩
 ·cases e.symm.trans c
 ·exact q
noncomputable def aw (cls:List Nat) (name:Str) (o:Ev):Ev:=λc k=>o c λv c=>d0 .no c.st v λA o=>mj .no o λC d=>aN .no (cM C cls) (aD .no (bw name d) λv=>k v c)
theorem Sf (b:ak c) (m:eI o=true) (e:(cls.all λC=>W.G.attr C name)=true) (n:aE c A o p):aE c A (.Attribute o name pos) (aw cls name p):=by
 intro q k y h d s r N E R t Q u;refine FJ m (n q _ y h d s r N E R t _ λv S val T V X h a w x=>?_)
 refine vx a x h d λi C Z qa qb da CA qc z hg hj B hda D f h=>?_
 refine ae (aS h d) ?_;clear h;intro g h;refine Y (aR h d) ?_;clear h d;intro v j h;refine Y (f.at j) ?_;clear f j;intro val G l;refine Y a.fr λqd F eA=>?_
 refine j5 (b.g.attr _ _ (aeK.mp e _ (nQ g))) ?_;clear e g;intro H I L z;obtain⟨attr,M,P⟩:=L;exact get_own F b.aZ (aiX a.news (aeo _ B) (aeo _ D)) H I M P G (En b a l) (u _ _ _ _ _ _ h a.toks w l)
theorem zb:∀ {a:List aeM},a.any aeH=false->(agN a env).any (·.1)=false
 |[],b=>rfl
 |e::a,h=>by rw[afA,Bool.or_eq_false_iff]at h;rw[fz h.1,afA,zb h.2];rfl
theorem zd:∀ {l:List (Bool×Sem ael)},(ah2 pos l).any (·.1)=l.any (·.1)
 |[]=>rfl
 |[(a,e)]=>rfl
 |(b,m)::y::rest=>by have:=zd (pos:=pos) (l:=y::rest);show (b ||(ah2 pos (y::rest)).any (·.1))=(b ||(y::rest).any (·.1));rw[this]
theorem eM{Q:ael->aep->Prop}{P:afm->Prop}
  (f:a.any aeH=false) (i:∀ b,P b->∃ k,(k=Keeper.frame\/k=Keeper.machine\/k=Keeper.boundFrame)/\Looks (aeR W.prog W.w) b (keeperOf g) k)
  (q:WP W A (spliced (ah2 pos (agN a c.env))) (λvs h=>P h.heap/\WP W A (call g (j++vs)) Q E h) E s):WP W A (callWith pos g j (ah2 pos (agN a c.env)) []) Q E s:=by
 have b:((ah2 pos (agN a c.env)).any (·.1) ||([]:List (Option Str×Sem ael)).any (·.1.isNone))=false:=by rw [zd,zb f];rfl
 refine callWith_of (P:=P) b i ?_
 induction a using aeC with
 |nil=>
  unfold evalArgs
  show aeO _ _ (spliced [] >>=_) _ _ _
  refine aek (afN q (λvs n d=>afX ?_) λm m x=>x)
  exact aek (aey (aek (aey (aey d))))
 |cons e a=>
  rw [afA,Bool.or_eq_false_iff]at f
  rw [fz f.1]at q ⊢
  generalize agN a c.env=l at q ⊢
  induction l using aeC with
  |nil=>exact evalArgs_plain q
  |cons=>exact evalArgs_plain q
noncomputable def az (call:Call) (a:aez) (args:ec):Ev:=λc k=>args c λl c=>call (.glob a) l c k
theorem zY (a:ak c){x:Str}{n:Nat}(f:c.scope.names[n]?=some (x,.globalImplicit)) (b:cJ x=true) (e:W.G.name x=some v){s:aep}{α N}(R:SR c σ s α N) {Q:ael->aep->Prop}{E:ael->aep->Prop}(h:∀ val,VR W.kt α N val v->Q val s):WP W A (eval (.Name x pos) c.env) Q E s:=by
 have b:=(aeT _).mp (aei.mp b).1;refine Y R.fr ?_;clear R;intro m F j;have d:=eX a.cW f;refine gH a.top λp k l o T=>?_
 refine Y (a.g.name x v e α N) ?_;clear e;intro val g i;exact ahI a.kind d (loadGlobal_global (env:=c.env) (by rw[a.iE];exact T.g.keeps F.keep) (mg_of a.aZ T.g g) (h _ i)) b
theorem zq (e:ak c){call:Call}(m:jb c A call){x:Str}{p:Pos}{n:Nat}{a:aez}{args:List aeM}{f}{pos:Pos}(o:args.any aeH=false) (q:c.scope.names[n]?=some (x,.globalImplicit)) (b:cJ x=true) (r:W.G.name x=some (.glob a)) (t:(W.G.fn a).isSome=true\/(W.G.init a).isSome=true) (u:gL c A args f):aE c A (.Call (.Name x p) args [] pos) (az call a f):=by
 intro v k y h d s w N E R g Q z;refine Call_ (zY e q b r R λF B=>?_)
 cases B
 refine eM (P:=λb=>W.K.In b) o (λb X=>keeps_K (e.g.keep a t) b X) ?_
 exact u v _ y h d s w N E R g pos _ λl G H I L M h i j C D=>⟨i.aZ,m _ _ _ _ _ h d _ _ _ _ i (g.step j.kp).l _ _ (.glob a) C D _ (z.step j)⟩
noncomputable def a9 (call:Call) (a:List (Nat×aez)) (name:Str) (o:Ev) (args:ec):Ev:=λc k=>o c λv c=>d0 .no c.st v λi o=>mj .no o λC d=>Bm .no (bw name d) (aD .no (lk C a) λf=>args c λl c=>call (.glob f) (.ref i::l) c k)
theorem iA{α:Type}{v:α}:∀ {l:List (Nat×α)},lk n l=some v->(n,v)∈l
 |[],h=>by exact aT h
 |e::l,h=>by
  rw[eD]at h;split at h
  ·rename_i q;have a:=aej h;clear h;subst v;rw[q];exact .head _
  ·exact .tail _ (iA h)
theorem vO{Q:ael->aep->Prop}{E:ael->aep->Prop}
  (i:eI o=true) (j:args.any aeH=false) (k:args.length<30) (l:(b.endLine ==pos.line)=true)
  (h:WP W A (eval o c.env) (λa e=>∀ m,WP W A (getMethod a name m) (λr f=>WP W A (callWith pos r.1 r.2 (ah2 pos (agN args c.env)) []) Q E f) E e) E s):
  WP W A (eval (.Call (.Attribute o name b) args [] pos) c.env) Q E s:=by
 show WP W A (do
  let a←attributeBase o name c.env (eval o c.env)
  standAt b.atName
  methodCall o name b pos c.env a args.length (ah2 pos (agN args c.env)) (backToKw pos (keywordEach [] c.env))) Q E s
 rw [DP i]
 refine aek (afN h (λa e h=>?_) λd d x=>x)
 refine aek (ahO ?_)
 unfold methodCall
 have g:methodCallForm args.length (ah2 pos (agN args c.env)) (backToKw pos (keywordEach [] c.env))=true:=by
  have q:(ah2 pos (agN args c.env)).any (·.1)=false:=by rw [zd,zb j]
  have n:(ah2 pos (agN args c.env)).all (!·.1)=true:=by
   simpa [List.any_eq_false,aeK] using q
  unfold methodCallForm
  rw [n]
  exact decide_eq_true k
 rw [g]
 have p:methodCallForm (args.length+([]:List Keyword).length) (ah2 pos (agN args c.env)) (backToKw pos (keywordEach [] c.env))=true:=g
 refine aek (afX (afN (h _) (λr f h=>?_) λd d x=>x))
 unfold methodCallPos
 rw [if_pos (by rw [l];rfl)]
 exact aek (aey h)
theorem EU (e:ak c){call:Call}(w:jb c A call){m n}(x:eI o=true) (q:args.any aeH=false) (g:args.length<30) (a:(z.endLine ==pos.line)=true) (r:(B.all λp=>W.G.cu p.1 name ==some p.2)=true) (C:aE c A o m) (D:gL c A args n):aE c A (.Call (.Attribute o name z) args [] pos) (a9 call B name m n):=by
 intro G qb y h d s H N E R i qc I;refine vO x q g a (C G _ y h d s H N E R i _ λqd dk val dn cL bZ h b j t=>?_)
 intro pl;have k:=t;revert k;refine vx b t h d λqe qf es qg qh da CA qi L hg hj M hda Q S h k=>?_
 refine ae (Fv h d) ?_;clear h;intro g h;refine Y (aR h d) ?_;clear h;intro f u h;refine j5 (e.g.cu _ _ _ (beq_iff_eq.mp (aeK.mp r _ (iA u)))) ?_;clear r u;intro T V X Z;refine Y b.fr λqj F eA=>?_
 refine method_inst F e.aZ (aiX b.news (aeo _ M) (aeo _ Q)) T V X (S.no g) ?_;refine eM (P:=λa=>W.K.In a) q (λa qa=>keeps_K (e.g.keep f (.inl Z)) a qa) ?_
 exact D _ _ y h d _ _ _ _ b (i.step j.kp) pos _ λqk σ₂ vs eb ek dK h v l ie CB=>⟨v.aZ,w _ _ _ _ _ h d _ _ _ _ v (i.step (j.trans l).kp).l _ _ (.glob f) (.cons (L▸k.mono l.ge) ie) CB _ (I.step (j.trans l))⟩
theorem SR.ext (R:SR c σ s α N)(f:ak c)(k:∀ b o,s.heap.get? b=some o->h'.get? b=some o):SR c σ {s with heap:=h',toks:=t} α N:=by
 refine Y R.fr λm F A=>?_
 exact ⟨(ay m ⟨F.ns.keeps k,λb o e=>k _ _ (F.keep b o e),F.above⟩ A),R.aK,λp d=>⟨k _ _ (R.news p d).1,(R.news p d).2⟩,R.nodup,R.inj,R.obj,R.all,R.hi,R.wf,R.bD,R.len,R.low,R.bt,R.gens,R.os,λa o e=>k _ _ (R.aZ a o e)⟩
theorem zk (x:ai5 h.objs.size h h'):∀ b o,h.get? b=some o->h'.get? b=some o:=λb o e=>x b o (aeN (aeS e)) e
theorem Hj (h:(not (or a b))=true):a=false/\b=false:=by induction a using aen<;>induction b using aen<;>first|exact⟨rfl,rfl⟩|exact aX h
noncomputable def eK(e:aeM):Bool:=match e with
 |.ListComp ..|.SetComp ..|.DictComp ..|.GeneratorExp ..=>true
 |_=>false
theorem jV(h:eK e=false)(t:Option aeM)(n:Nat)(env:Env):aiw e t n env=pure false:=by
 induction e using afK<;>first|rfl|exact gr h
noncomputable abbrev Tg:=O->LS->(LS->Rs)->Rs
noncomputable def kq (c:Cx W) (y:Rs) (σ:LS) (α:List aez) (N:Led) (kn:LS->Rs) (Q:Unit->aep->Prop):Prop:=
 ∀ d A a b,kn d=y->SR c d A a b->Sts σ α N d a b->Q () A
theorem kq.step (h:kq c y σ α N k Q)(g:Sts σ α N a b f):kq c y a b f k Q:=
 λd A W i e R j=>h d A W i e R (g.trans j)
noncomputable def kc (c:Cx W) (A:ae6) (t:aeM) (b:Tg):Prop:=∀ v d k y,b v d k=y->y≠.no->∀ s a N E val,SR c d s a N->bS c y d a N E->VR W.kt a N val v->∀ Q,kq c y d a N k Q->WP W A (aio t c.env val) Q E s
noncomputable def aq (n:Nat):Tg:=λv d k=>k (LS.rec (motive:=λA=>LS) (λl c t i lo m=>⟨(n,v)::l,c,t,i,lo,m⟩) d)
noncomputable def fe (n:Nat):Tg:=λv c k=>aD .no (lk n c.aK) λi=>aD .no (c.st.get i) λo=>qn .no o λd=>rz .no (cM i c.mark) (k (c.put i (.cell (some v))))
noncomputable def q9 (c:Cx W) (A:ae6) (x:Str) (b:Tg):Prop:=∀ v d k y,b v d k=y->y≠.no->∀ s a N E val,SR c d s a N->bS c y d a N E->VR W.kt a N val v->∀ Q,kq c y d a N k Q->WP W A (storeName c.env x val) Q E s
theorem zZ (a:ak c) (b:c.comp=none) (e:c.scope.names[n]?=some (x,.local)):q9 c A x (aq n):=by
 intro v p k y h q s r N E val R u i Q l;refine Y R.fr λm F j=>?_
 have d:=a.locs;rw[b]at d;dsimp only at d;refine ahA (eX a.cW e) (by rw[d];exact F.ns) (λw f W=>?_) (by rw[show c.env.scope.kind=.function from a.kind];rfl)
 rw[d]at f W;refine ae (R.V6 a b e i (t:=s.toks+1) j (F.set f W) (R.news.set W)) ?_;clear R a b e i j F f W;intro o g;exact l _ _ _ _ h o g
theorem FL (a:ak c) (b:c.comp=none) (e:c.scope.names[n]?=some (x,.local)):kc c A (.Name x pos) (aq n):=
 λv d k y h W s f N E val R g i Q j=>ajw (zZ a b e v d k y h W s f N E val R g i Q j)
theorem FN (f:ak c) (a:c.scope.names[n]?=some (x,.cell)):q9 c A x (fe n):=by
 intro v l qa qb h d qc p qd qe val R hE q qf r;refine Y R.fr λqg F s=>?_
 refine Y (aR h d) λi t h=>?_
 refine Y (aR h d) λqh w h=>?_
 refine Y (vp h d) ?_;clear h;intro ov W h;subst W;refine ae (sG h d) λy h=>?_
 refine cj (R.aK n i t) λx' k' qi B D j=>?_
 cases aej (a.symm.trans B)
 refine Y (R.of w j) λb k E=>?_
 refine aL E.R0 λad8 G=>?_
 have z:=R.news _ (aeo _ k);refine wpAny_storeName_cell f.kind (eX f.cW a) D (ay b z.1 G) λh' H m=>?_
 refine Y H λI L M=>?_
 have N:∀ x,l.st.get (i+1)=some x->i+1<l.n->(∃ C o,x=.obj C o)->False:=λx a P e=>by
  refine eZ e ?_;clear e;intro C o W;subst W;refine aH (R.obj _ _ P a) λa' b' q1 q2 Q=>?_
  refine ir Q.inv λqj da CA n S T V X S=>?_
  obtain rfl:=af0 T;obtain rfl:=aej (j.symm.trans V);obtain rfl:=R.uniq k X;contradiction
 refine cK (R.mod f (ao':=.cell (some v)) (o':=I) j k (iy y) (λps e=>by subst e;contradiction) N) λZ u g K=>?_
 refine eJ u.split λpre post e1 e2 n1 n2=>?_
 refine r _ _ p Z h (K s (F.change m z.2.1 z.2.2) ?_ (.cell M (q.mono g.ge))) g.toSts;rw[e2];exact news_set (e1▸R.news) n1 n2 m L
theorem Uz (a:ak c) (b:c.scope.names[n]?=some (x,.cell)):kc c A (.Name x pos) (fe n):=
 λv d k y h W s e N E val R f g Q i=>ajw (FN a b v d k y h W s e N E val R f g Q i)
noncomputable abbrev iT:=List O->LS->(LS->Rs)->Rs
noncomputable def bL:iT:=λl c k=>aeC l (k c) λd d=>.no
noncomputable def aV(t:Tg)(r:iT):iT:=λl c k=>aeC l .no λv l=>t v c λc=>r l c k
noncomputable def mu (c:Cx W) (A:ae6) (e:List (ael->Sem Unit)) (g:iT):Prop:=∀ l d k y,g l d k=y->y≠.no->ae1 l=true->∀ s a N E b,SR c d s a N->bS c y d a N E->ah W.kt a N b l->∀ Q,kq c y d a N k Q->WP W A (assignInOrder e b) Q E s
theorem FO:mu c A [] bL:=by
 intro l b k y h d e s f N E g R i W Q a;induction l using aeC with
 |nil=>rw [W.nil_inv];exact aey (a _ _ _ _ h R .refl)
 |cons=>exact bO h d
theorem gB (h:ae1 (a::l)=true):a.sure=true/\ae1 l=true:=aei.mp h
noncomputable def Hk (c:Cx W) (A:ae6) (t:ael->Sem Unit) (b:Tg):Prop:=∀ v d k y,b v d k=y->y≠.no->∀ s a N E val,SR c d s a N->bS c y d a N E->VR W.kt a N val v->∀ Q,kq c y d a N k Q->WP W A (t val) Q E s
theorem EV{t:ael->Sem Unit}{a:List (ael->Sem Unit)}(i:Hk c A t j) (m:mu c A a g):mu c A (t::a) (aV j g):=by
 intro l w k y h d b s x N E z R e f Q n;induction l using aeC with
 |nil=>exact bO h d
 |cons v l=>
  refine aH (f.ck (gB b).1) ?_;clear f;intro u B o p q;subst o;refine aek (afX (i _ _ _ y h d _ _ _ E _ R e p _ λC D F G h r W=>?_))
  exact m _ _ _ y h d (gB b).2 _ _ _ _ _ r (e.step W.kp) (q.mono W.ge) _ (n.step W)
noncomputable def cD (n:Nat) (g:iT):Tg:=λv c k=>cF .no v λl=>aN .no (and (aew l.length n) (ae1 l)) (g l c k)
theorem eY (R:SR c σ s α N) (h:VR W.kt α N v (.tup l)):∃ a vs,v=.ref a/\IsTup s.heap a vs.toArray/\ah W.kt α N vs l:=by
 rcases h.inv with⟨a,o,vs,n,rfl,d,_,A,b,r⟩|⟨a,vs,n,f,rfl,e,r⟩
 ·exact (bB _ _ rfl (fC _ (R.get d) A.1 _ b) r)
 ·exact (bB _ _ rfl (fC _ (R.aZ _ _ e) rfl _ rfl) r)
noncomputable def CC(W:Wd)(α:List aez)(N:Led)(h:afm)(v:ael)(a:O):Prop:=∃ T c d,v=.ref T/\IsTup h T c.toArray/\a=.tup d/\ah W.kt α N c d
noncomputable def nr (c:Cx W) (A:ae6) (t:aeM) (b:Tg):Prop:=∀ v d k y,b v d k=y->y≠.no->∀ s a N E val,SR c d s a N->bS c y d a N E->CC W a N s.heap val v->∀ Q,kq c y d a N k Q->WP W A (aio t c.env val) Q E s
theorem FP (i:ak c) (j:aP c d A) (m:(agQ elts c.env).findIdx? (·.1)=none) (n:mu c A ((agQ elts c.env).map (·.2)) g):nr c A (.Tuple elts kk pos) (cD (agQ elts c.env).length g):=by
 intro v o k y h W s C N E val R p b Q q;refine gC b ?_;clear b;intro a D l u w x r;subst u;subst x;refine ae (aS (show aN .no _ (g l o k)=y from h) W) ?_;clear h;intro e h;refine ae (aei.mp e) ?_;clear e;intro z f;refine assign_Tuple_tuple j.handled w ((afi.trans (r.len f)).trans (aem z)).symm m λF B=>?_
 exact n _ _ _ y h W f _ _ _ E _ (R.ext i (t:=s.toks) (zk B)) p r _ q
theorem UA (f:ak c) (i:aP c d A) (j:(agQ elts c.env).findIdx? (·.1)=none) (m:mu c A ((agQ elts c.env).map (·.2)) g):kc c A (.Tuple elts kk pos) (cD (agQ elts c.env).length g):=by
 intro v t k y h b s u N E val R n e Q o;refine Y (dP h b) ?_;intro l W w;subst W;refine aH (eY R e) ?_;clear e;intro a p W q r;subst W;exact FP f i j m _ _ _ _ h b _ _ _ _ _ R n (l8 a p _ rfl q rfl r) Q o
noncomputable def aC(g:Tg)(e:Ev):Sc:=λc kn d=>e c λv c=>g v c kn
theorem FQ (b:eK e=false) (f:q9 c A x g) (i:aE c A e j):bQ c A (.Assign [.Name x t] e p) (aC g j):=by
 intro k kn u y h d s l N E R W Q m w;refine wpAny_Assign_Name (i k _ y h d s l N E R W _ λv z val B C D h n a o=>?_) (jV b _ _ _)
 exact f _ _ _ y h d _ _ _ E _ n (W.step a.kp) o _ λF G H I h q r=>m _ _ _ _ h q (a.Bn r)
theorem Sg (f:eK e=false) (i:ag4 [.Tuple elts kk a] e c.env=pure none) (j:kc c A (.Tuple elts kk a) g) (k:aE c A e l):bQ c A (.Assign [.Tuple elts kk a] e p) (aC g l):=by
 intro m kn w y h d s n N E R W Q o x;refine Assign_Tuple (k m _ y h d s n N E R W _ λv z val B C D h q b r=>?_) (jV f (some (.Tuple elts kk a)) p.line c.env) i
 exact j _ _ _ y h d _ _ _ E _ q (W.step b.kp) r _ λF G H I h t u=>o _ _ _ _ h t (b.Bn u)
noncomputable def ff (n:Nat) (g:iT):Tg:=λv c k=>cF .no v λl=>aN .no (and (aew l.length n) (ae1 l)) (g l.reverse c k)
theorem ah.rev (h:ah T α N vs l):ae1 l=true->ah T α N vs.reverse l.reverse:=ah.ind (P:=λvs l=>ae1 l=true->ah T α N vs.reverse l.reverse) (λc=>.nil)
 (λh c r p=>by rw[agp,agp];exact (r (vB p)).app (.cons h .nil)) (λc c c c=>iu) (λc c c=>iu) h
theorem QR(h:ae1 l=true):ae1 l.reverse=true:=List.all_reverse.trans h
theorem Sh (q:ak c) (u:aP c d A) (w:eK e=false) (x:ag4 [.Tuple elts kk j] e c.env=pure (some a)) (z:mu c A (a.reverse.map λn=>bindName c.env n) g) (b:aE c A e B):bQ c A (.Assign [.Tuple elts kk j] e p) (aC (ff a.length g) B):=by
 intro C kn T y h W s D N E R k Q F G;refine Assign_Tuple_swapped (b C _ y h W s D N E R k _ λv V val H X Z h l m o=>?_) (jV w (some (.Tuple elts kk j)) p.line c.env) x
 refine Y (dP h W) ?_;clear h G;intro qa f h;subst f;refine ae (aS h W) ?_;clear h;intro e h;refine ae (aei.mp e) ?_;clear e;intro I i;refine aH (eY l o) ?_;clear o;intro qb L f M r;subst f;rw [show a.length=L.toArray.size from ((afi).trans ((r.len i).trans (aem I))).symm];refine unpackItems_tuple u.handled M λh' b=>?_
 exact z _ _ _ y h W (QR i) _ _ _ E _ (l.ext q (t:=H.toks) (zk b)) (k.step m.kp) (r.rev i) _ λσ₂ eb ek dK h P S=>F _ _ _ _ h P (m.Bn S)
theorem Si (a:q9 c A x g):Hk c A (λv=>bindName c.env x v) g:=
 λv d k y h W s b N E val R e f Q i=>bindName_ (a v d k y h W s b N E val R e f Q i)
noncomputable def bq(e:Ev):Sc:=λc kn d=>e c λd c=>kn c
theorem Sj (a:ak c) (b:eK e=false) (f:aE c A e g):bQ c A (.Expr e p) (bq g):=by
 intro d kn n y h W s i N E R j Q k o;refine aiY ?_ (by unfold interactive;rw[show c.env.scope.kind=.function from a.kind];rfl) (jV b _ _ _)
 exact f d _ y h W s i N E R j _ λv q val r t u h l m w=>k _ _ _ _ h l m.toSts
noncomputable def jq (x:Str) (v:O) (l:List (Str×O)):List (Str×O):=aeL [(x,v)] (λe r c=>aex (e::c) ((e.1,v)::r) (seq x e.1)) l
theorem zr:jq x v (e::l)=if x=e.1 then (e.1,v)::l else e::jq x v l:=by
 show aex (motive:=λc=>List (Str×O)) (e::jq x v l) ((e.1,v)::l) (seq x e.1)=_
 induction q:seq x e.1 using aen with
 |true=>rw[if_pos (gG.mp q)]
 |false=>rw[if_neg λh=>by rw[gG.mpr h]at q;exact gr q]
theorem bM.put{P K α N x v av t}(b:VR K α N v av){a aes}(r:bM P K α N a aes):bM P K α N (putL x (aiW P x) (.str x t) v a) (jq x av aes):=by
 induction r with
 |nil=>exact .cons b .nil
 |@cons y d u A a aes h r c=>
  rw[zr];unfold putL;by_cases e:x=y
  ·subst e;rw[if_pos (by show (x ==x)=true;exact beq_self_eq_true x),if_pos rfl]
   exact .cons b r
  ·rw[if_neg (by show ¬((y ==x)=true);exact λz=>e (beq_iff_eq.mp z).symm),if_neg e]
   exact .cons h c
theorem bM.length{P K α N a aes}(h:bM P K α N a aes):a.length=aes.length:=by
 induction h with
 |nil=>rfl
 |cons d A c=>exact congrArg (·+1) c
theorem PM(x:Str)(v:O)(l):(jq x v l).length<=l.length+1:=by
 induction l with
 |nil=>exact aeD _
 |cons e r c=>
  rw[zr];by_cases q:x=e.1
  ·rw[if_pos q];exact af7 _
  ·rw[if_neg q];exact agf c
noncomputable def Ng{α:Type}(l:List α):Bool:=wi l (nat_lit 500)
noncomputable def bk (cls:List Nat) (name:Str) (o e:Ev):Sc:=λc kn W=>e c λv c=>o c λA c=>d0 .no c.st A λi o=>mj .no o λC d=>aD .no (c.st.get (ago i)) λp=>Al .no p
 (aN .no (and (and (cM C cls) (Ng d)) (not (or (cM i c.mark) (cM (ago i) c.mark)))) (kn (c.tM i (.obj C (jq name v d)))))
theorem zK (R:SR c σ s α N) (a:i<σ.n) (b:j<σ.n):(σ.tM i o).st.get j=if j=i then some o else σ.st.get j:=
 get_set R.wf (aet a R.bD) (aet b R.bD)
theorem SR.Wj (R:SR c σ s α N) (V:ak c) (hi:σ.st.get (j+1)=some (.obj C es)) (X:σ.st.get j=some .own) (E:α[j+1]?=some a) (Z:(a,ahy C l)∈N) (u:α[j]?=some l) (F:(l,o)∈N) (CD:∀ x,o≠afn x) (uE:j∉σ.mark) (abu:j+1∉σ.mark):
  ∃ i,Upd l o o' (N++c.ax) (i++c.ax)/\bh σ α N (σ.tM (j+1) (.obj C es')) α i/\∀ {h':afm} {t:Nat} {m:Str->Option ael} {P n},NR c σ.loc α N m->Fr c.h₀ c.L h' m->agM c.h₀ c.L h' (i++c.ax)->o'=afY P n->bM W.w.params W.kt α i P es'->
   SR c (σ.tM (j+1) (.obj C es')) {s with heap:=h',toks:=t} α i:=by
 refine j1 (Gs o' R.Nc F) λi qa G Q r=>?_
 have y:=R.lt E;have g:Ge α N α i:=⟨afJ _,λp A hn=>r p A λe=>hn (e▸aeV u),λu_ h=>.inl h,λqb x h=>by
  by_cases q:qb=l
  ·subst q;exact absurd (aej ((R.news.get (aeo _ F)).symm.trans (R.news.get (aeo _ h)))) (CD x)
  ·exact⟨x,r _ h q⟩⟩
 have st:bh σ α N (σ.tM (j+1) (.obj C es')) α i:=⟨⟨g,iz,λk d=>by
  have B:k<j+1:=afg (aet d ja);rw[zK R y (agt B y),if_neg (aeN B)],aeD _,rfl,λk b ob d v w u_=>r _ w λe=>by
   have B:k<j:=aet d ja;exact aeN B (hH R v (show α[j]?=some b by rw[show b=l from e];exact u)),λk d=>⟨by
  have H:k≠j+1:=λe=>abu (e▸d)
  rw[zK R y (R.bt k d),if_neg H],λb ob v w=>r _ w λe=>by
   have H:k≠j:=λe=>uE (e▸d)
   exact H (hH R v (show α[j]?=some b by rw[show b=l from e];exact u))⟩⟩,rfl⟩
 have I:∀ {k D},α[k]?=some D->k≠j->D≠l:=λh z z'=>z (hH R h (z'▸u))
 refine (dJ i (Upd4 qa λp A e=>R.Bp (a:=l) (aeF (f:=λp:aez×Obj=>p.1) F) (e▸aeF A)) st (λhm S ko eo he=>⟨(ay _ S (hm.mono g)),R.aK.mono g,ko,by rw[aeX,G,←aeX];exact R.nodup,R.inj,λk L d e=>?_,λa h=>G▸R.all a h,λp A=>?_,R.wf.set,R.bD,R.len,aeE iz R.low,R.bt,R.gens,R.os,V.aZ.keeps S.keep⟩))
 rotate_left
 ·rcases aeQ.mp A with A|A
  ·have M:p.1∈i.map (·.1):=aeF A;rw[G]at M;refine Y (aeP.mp M) ?_;clear M;intro q hq e;have z:=R.hi q (aeo _ hq);rw[e]at z;exact z
  ·exact R.hi p (aeu _ A)
 rw[zK R y d]at e;by_cases q:k=j+1
 ·rw[if_pos q]at e;have bj:=aej e;clear e;subst L;subst q;exact (bB a _ E (r _ Z (I E (ahg j))) (.obj rfl u (eo▸Q) he))
 ·rw[if_neg q]at e;by_cases T:k=j
  ·subst T;rw[X]at e;have bj:=aej e;clear e;subst L;exact (bB l o' u Q .own)
  ·refine aH (R.obj k L d e) ?_;clear R d e;intro D b v w h3;refine (bB D b v (r _ w (I v T)) ?_);exact h3.mono g λj' d' ad9 z1 z2 z3=>r _ z2 (I z1 λz=>q (by rw[z3,z]))
theorem QS (f:ak c) (Q:eK e=false) (l:(cls.all λC=>W.G.attr C name)=true) (R:aE c A o S) (T:aE c A e V):bQ c A (.Assign [.Attribute o name p'] e p) (bk cls name S V):=by
 intro X kn kr y h d s Z qa qb qc i qh hn hr;refine ahk ?_ (jV Q _ _ _);refine T X _ y h d s Z qa qb qc i _ λv dk val dn cL bZ h dq m hv=>?_
 refine R _ _ _ h d _ _ _ _ dq (i.step m.kp) _ λov σ₂ vo n ek dK h a r u=>?_
 have b:=u;revert b;refine vx a u h d λqi C w x qd da j qe z B hj D E F G h b=>?_
 subst hj;refine Y (aR h d) ?_;clear h;intro p H h;refine ae (QJ h d) ?_;clear h i hr;intro bj h;subst bj;refine ae (aS h d) ?_;clear h d;intro I h;refine ae (aei.mp I) ?_;clear I;intro L k;refine ae (aei.mp L) ?_;clear L;intro M m2;refine Y ((z▸b:VR W.kt ek dK _ (.ref (qd+1))).inv) ?_;clear b z;intro x' e N
 cases e
 refine Y a.fr λqj qf eA=>?_
 refine Ft (f.g.attr _ _ (aeK.mp l _ (nQ M))) ?_;clear l M;intro p1 p2 p3 p4 p5 p6;have hl:(getL name j).isSome=true:=by rcases G.find (x:=name) with⟨_,_,_,q,_⟩|⟨_,q⟩<;>rw [q]<;>rfl
 have P:=G.put (x:=name) (t:=n.toks+1) (hv.mono r.ge);refine cK (a.Wj f (es':=jq name v w) (o':=afY (putL name (aiW W.w.params name) (.str name (n.toks+1)) val j) (putN name j qe)) B H N D E F (λps e=>by cases e) (iy (Hj k).2) (iy (Hj k).1)) ?_;clear B H N E k;intro N' qg g K
 refine set_dict qf f.aZ a.news (aiX a.news (aeo _ D) (aeo _ F)) rfl p4 p5 p6 p2 hl rfl qg ?_ λh' F' ko=>?_
 ·exact P.length▸aeE (PM name v w) (aeE (agf (i5 m2)) (by decide))
 ·exact hn _ _ _ _ h (K eA F' ko rfl (P.mono g.ge)) (m.trans (r.trans g)).toSts
theorem kK{α:Type}{v:α}{l:List (Str×α)}:ahU x ((y,v)::l)=if x=y then some v else ahU x l:=by
 rw[afz];by_cases q:x=y
 ·rw[if_pos q,q,beq_self_eq_true]
 ·rw[if_neg q,beq_eq_false_iff_ne.mpr q]
theorem aU.ind{K α N}{P:List (Str×ael)->List (Str×O)->Prop}(nil:P [] []) (cons:∀ {x v av bs abs},VR K α N v av->aU K α N bs abs->P bs abs->P ((x,v)::bs) ((x,av)::abs)){abs}:∀ {bs},aU K α N bs abs->P bs abs:=by
 induction abs with
 |nil=>intro bs h;rw [h.nil_inv];exact nil
 |cons p abs d=> intro bs h;refine aH (aU.ck (x:=p.1) (av:=p.2) h) ?_;clear h;intro v a A W c;subst A;exact cons W c (d c)
theorem aU.append{K α N bs abs b e}(h:aU K α N bs abs) (h':aU K α N b e):aU K α N (bs++b) (abs++e):=aU.ind (P:=λbs abs=>aU K α N (bs++b) (abs++e)) h' (λa c r=>.cons a r) h
theorem aU.reverse{K α N bs abs}(h:aU K α N bs abs):aU K α N bs.reverse abs.reverse:=aU.ind (P:=λbs abs=>aU K α N bs.reverse abs.reverse) .nil (λa c r=>by rw[agp,agp];exact r.append (.cons a .nil)) h
theorem aU.Nh{K α N x bs abs}(h:aU K α N bs abs):∀ v,abs.lookup x=some v->∃ val,bs.lookup x=some val/\VR K α N val v:=aU.ind (P:=λbs abs=>∀ v,abs.lookup x=some v->∃ val,bs.lookup x=some val/\VR K α N val v) (λc e=>nomatch e)
 (fun{y w d bs abs}a _ r v e=>by
  rw[kK]at e ⊢;by_cases q:x=y
  ·rw[if_pos q]at e ⊢;exact (ay _ rfl (aej e▸a))
  ·rw[if_neg q]at e ⊢;exact r v e) h
theorem aU.lk0{K α N x bs abs}(h:aU K α N bs abs):abs.lookup x=none->bs.lookup x=none:=aU.ind (P:=λbs abs=>abs.lookup x=none->bs.lookup x=none) (λc=>rfl)
 (fun{y w d bs abs}_ _ r e=>by
  rw[kK]at e ⊢;by_cases q:x=y
  ·rw[if_pos q]at e;exact nk e
  ·rw[if_neg q]at e ⊢;exact r e) h
theorem aU.names{K α N bs abs}(h:aU K α N bs abs):bs.map (·.1)=abs.map (·.1):=aU.ind (P:=λbs abs=>bs.map (·.1)=abs.map (·.1)) rfl (fun{x _ _ _ _}_ _ r=>congrArg (x::·) r) h
theorem sh{α:Type}{f:Str->Bool}{p:Str×α}{l:List (Str×α)}:(p::l).filter (λp=>f p.1)=if f p.1=true then p::l.filter (λp=>f p.1) else l.filter (λp=>f p.1):=by
 by_cases q:f p.1=true
 ·rw[if_pos q];exact aih (p:=λp:Str×α=>f p.1) q
 ·rw[if_neg q];exact aii (p:=λp:Str×α=>f p.1) q
theorem aU.filter{K α N}(f:Str->Bool){bs abs}(h:aU K α N bs abs):aU K α N (bs.filter λp=>f p.1) (abs.filter λp=>f p.1):=aU.ind (P:=λbs abs=>aU K α N (bs.filter λp=>f p.1) (abs.filter λp=>f p.1)) .nil
 (fun{x v c bs abs}a _ r=>by
  rw[sh,sh];by_cases q:f x=true
  ·rw[if_pos q,if_pos q];exact .cons a r
  ·rw[if_neg q,if_neg q];exact r) h
theorem EW (h:mr fd a=some b):fd.params.zip (a++fd.di.drop (fd.di.length-(fd.params.length-a.length)))=b:=by
 by_cases c:a.length<=fd.params.length/\fd.params.length<=a.length+fd.di.length
 ·exact aej ((if_pos c).symm.trans h)
 ·exact nomatch (if_neg c).symm.trans h
theorem PN (h:mr fd e=some b):∀ p∈b,p.1∈fd.params:=λp c=>(List.of_mem_zip (a:=p.1) (b:=p.2) (EW h▸c)).1
noncomputable def eO(sc:afC)(x:Str):Bool:=sc.names.lookup x ==some NameKind.local
theorem se:eO sc x=true↔sc.names.lookup x=some .local:=beq_iff_eq
theorem D7{m:Str->Option ael}:aD (if x=n then some v else m x) (l.lookup x) some=aD (m x) ((l++[(n,v)]).lookup x) some:=by
 rw[List.lookup_append];induction l.lookup x using aeB with
 |some v=>rfl
 |none=>
  rw[kK];by_cases e:x=n
  ·rw[if_pos e,if_pos e];rfl
  ·rw[if_neg e,if_neg e];rfl
theorem Sk{env:Env}(binds:List (Str×ael)):∀ (m:Str->Option ael) (x:Str),bindL env.kindOf binds m x=aD (m x) ((binds.filter λp=>eO env.scope p.1).reverse.lookup x) some:=by
 induction binds with
 |nil=>exact λm x=>rfl
 |cons p r c=>
  intro m x;rw[sh];refine (c (if env.kindOf p.1=some .local then λy=>if y=p.1 then some p.2 else m y else m) x).trans ?_
  by_cases h:eO env.scope p.1=true
  ·rw[if_pos h,if_pos (show env.kindOf p.1=some .local from se.mp h),agp];exact D7
  ·rw[if_neg h,if_neg (show ¬env.kindOf p.1=some .local from λq=>h (se.mpr q))]
theorem Sl{env:Env}(binds:List (Str×ael)):∀ (m:Str->Option ael) (x:Str),bindC env.kindOf binds m x=aD (m x) ((binds.filter λp=>!eO env.scope p.1).reverse.lookup x) some:=by
 induction binds with
 |nil=>exact λm x=>rfl
 |cons p r c=>
  intro m x;rw[sh (f:=λx=>!eO env.scope x)]
  refine (c (if env.kindOf p.1=some .local then m else λy=>if y=p.1 then some p.2 else m y) x).trans ?_
  by_cases h:eO env.scope p.1=true
  ·rw[if_pos (show env.kindOf p.1=some .local from se.mp h),if_neg (by rw[h];exact aeY)]
  ·rw[if_neg (show ¬env.kindOf p.1=some .local from λq=>h (se.mpr q)),if_pos ((aeT _).mpr (Bool.eq_false_iff.mpr h)),agp]
   exact D7
theorem Pt (b:List (Str×afv)):∀ (n:Nat) (a:List (Str×aez)),afO n b a=afO n b []++a:=by
 induction b with
 |nil=>exact λn a=>rfl
 |cons p r c=>
  intro n a;show (if p.2 ==.cell then afO (n+1) r ((p.1,n)::a) else afO n r a)=(if p.2 ==.cell then afO (n+1) r [(p.1,n)]else afO n r [])++a;by_cases q:(p.2 ==.cell)=true
  ·rw [if_pos q,if_pos q,c (n+1) ((p.1,n)::a),c (n+1) [(p.1,n)],afP];rfl
  ·rw [if_neg q,if_neg q];exact c n a
theorem Ph (e:List (Str×afv)):∀ (n:Nat),(∀ p∈afO n e [],n<=p.2)/\((afO n e []).map (·.2)).Nodup:=by
 induction e with
 |nil=>exact λn=>⟨λp c=>(nomatch c),.nil⟩
 |cons p r d=>
  intro n;refine ae (d (n+1)) λA f=>?_
  rw [show afO n (p::r) []=if p.2 ==.cell then afO (n+1) r [(p.1,n)]else afO n r []from rfl];by_cases q:(p.2 ==.cell)=true
  ·rw [if_pos q,Pt r (n+1) [(p.1,n)]];refine⟨λp c=>?_,?_⟩
   ·rcases aeQ.mp c with c|c
    ·exact Nat.le_of_succ_le (A p c)
    ·rw [aev.mp c];exact aeD _
   ·rw [aeX];refine ae7.mpr (bH f (afe _ _) (λa W b g=>?_))
    refine Y (aeP.mp W) ?_;clear W;intro p c h;subst h;rw [aev.mp g];exact agu (A p c)
  ·rw [if_neg q];exact d n
theorem Pa (a:List (Str×afv))(n:Nat):(afO n a []).map (·.1)=(afO 0 a []).map (·.1):=cellsFrom_names a n 0 [] [] rfl
noncomputable def jS (sc:afC):List Str:=(afO 0 sc.names []).map (·.1)
theorem PO{cm:Str->Option ael}(h:CellsAre cm cs cells):cells.map (·.1)=cs.map (·.2)/\
  ∀ (i:Nat) x a,cs[i]?=some (x,a)->∃ o,cells[i]?=some (a,o)/\o.data=.cell (cm x):=by
 induction h with
 |nil=>exact⟨rfl,λi x a e=>nomatch e⟩
 |@cons n W o b f h r c=>
  refine ae c ?_;clear c;intro d A;refine⟨congrArg (_::·) d,λi x a e=>?_⟩
  induction i using aeI with
  |zero=>cases aej e;exact⟨_,rfl,h⟩
  |succ i=>exact A i x a e
structure aM where
 n:Nat
 gV:List O
 flags:List Bool
 cells:List (Nat×Option Nat)
 body:Call->Sc
noncomputable def nu{α:Type}(l:List α) (n:Nat):Option α:=aeL (motive:=λc=>Nat->Option α) (λc=>none) (λa c d n=>af6 (motive:=λc=>Option α) (some a) (λm c=>d m) n) l n
theorem sM{α:Type}{l:List α}:∀ {n:Nat},nu l n=l[n]?:=by
 induction l with
 |nil=>exact fun{n}=>rfl
 |cons a l c=>intro n;induction n using aeI with
  |zero=>rfl
  |succ n=>exact c
noncomputable def AP{α:Type}(l:List α) (n:Nat):Bool:=aeL (motive:=λc=>Nat->Bool) (λn=>aew n (nat_lit 0)) (λc c d n=>aex (d (ago n)) false (aew n (nat_lit 0))) l n
theorem Sm{α:Type}{l:List α}:∀ {n:Nat},AP l n=true->l.length=n:=by
 induction l with
 |nil=>exact λh=>(aem h).symm
 |cons a l c=>intro n h;induction n using aeI with
  |zero=>exact aX h
  |succ n=>exact congrArg (·+1) (c h)
noncomputable def X7 (E:aM) (args:List O):Option (List O):=aN none (and (aeZ args.length E.n) (aeZ E.n (ahT args.length E.gV.length))) (some (args++E.gV.drop (Nat.sub E.gV.length (Nat.sub E.n args.length))))
noncomputable def fill (E:aM) (args:List O):Option (List O):=aex (X7 E args) (some args) (AP args E.n)
noncomputable def tf (fs:List Bool) (i:Nat) (args:List O):List (Nat×O):=aeL (motive:=λc=>Nat->List O->List (Nat×O)) (λc c=>[]) (λb c d i args=>aeL (motive:=λc=>List (Nat×O)) [] (λv r c=>aex (d (afk i) r) ((i,v)::d (afk i) r) b) args) fs i args
noncomputable def wm (l:List (Nat×Option Nat)):Nat->List (Nat×Nat):=aeL (motive:=λc=>Nat->List (Nat×Nat)) (λc=>[]) (λp c d n=>(p.1,n)::d (afk n)) l
noncomputable def Aa (σ:LS) (os:List AO):LS:=aeL (motive:=λc=>LS->LS) (λσ=>σ) (λo c d σ=>d (σ.push o)) os σ
noncomputable def AQ (args:List O)(p:Option Nat):AO:=.cell (aD none p (nu args))
noncomputable def qq (args:List O) (l:List (Nat×Option Nat)):List AO:=aeL [] (λp d c=>AQ args p.2::c) l
noncomputable def enter (E:aM) (args:List O) (σ:LS):LS:=Aa (LS.rec (motive:=λc=>LS) (λc c t n lo m=>⟨tf E.flags (nat_lit 0) args,wm E.cells n,t,n,lo,m⟩) σ) (qq args E.cells)
noncomputable def back (σ a:LS):LS:=LS.rec (motive:=λd=>LS) (λl c d d d m=>LS.rec (motive:=λd=>LS) (λd d t n lo d=>⟨l,c,t,n,lo,m⟩) a) σ
noncomputable def roomF (E:aM) (σ:LS):Bool:=aeL (motive:=λc=>Bool) true (λc c c=>aeZ (ahT σ.n E.cells.length) bD) E.cells
theorem Sn (b:σ.n<=1024) (h:roomF E σ=true):aeZ (ahT σ.n E.cells.length) bD=true:=by
 unfold roomF at h;induction c:E.cells using aeC with
 |nil=>exact ahx b
 |cons a l=>rw[c]at h;exact h
noncomputable def jr (E:aM) (call:Call) (args:List O):Ev:=λc k=>ae2 .no (λa=>aex .no (E.body call (enter E a c) (λd=>k .none (back c d)) (λv d=>k v (back c d))) (roomF E c)) (fill E args)
structure X8(σ bu:LS)(os:List AO):Prop where
 loc:bu.loc=σ.loc
 aK:bu.aK=σ.aK
 n:bu.n=σ.n+os.length
 lo:bu.lo=σ.lo
 mark:bu.mark=σ.mark
 wf:Wf 10 bu.st
 get:∀ i,i<σ.n+os.length->bu.st.get i=if i<σ.n then σ.st.get i else os[i-σ.n]?
theorem ze (os:List AO):∀ (σ:LS),Wf 10 σ.st->σ.n+os.length<=1024->X8 σ (Aa σ os) os:=by
 induction os with
 |nil=>exact λσ h A=>⟨rfl,rfl,rfl,rfl,rfl,h,λi c=>(if_pos c).symm⟩
 |cons o r e=>
  intro σ h A;have d:σ.n+1+r.length=σ.n+(r.length+1):=ahe _ _;have W:σ.n+1+r.length<=1024:=d▸A;have a:σ.n<2^10:=aeE (ae0 _ _) W;obtain⟨f,g,k,l,p,s,t⟩:=e (σ.push o) h.set W;refine⟨f,g,k.trans d,l,p,s,λi c=>(t i (d▸c)).trans ?_⟩
  show (if i<σ.n+1 then (σ.push o).st.get i else r[i-(σ.n+1)]?)=_;have b:i<σ.n+1->(σ.push o).st.get i=if i=σ.n then some o else σ.st.get i:=λc=>get_set h a (aet c a)
  rcases Nat.lt_trichotomy i σ.n with q|rfl|q
  ·rw[if_pos (afg q),if_pos q,b (afg q),if_neg (aeN q)]
  ·rw[if_pos (agy _),if_neg (afG _),b (agy _),if_pos rfl,Nat.sub_self];rfl
  ·refine aL (Nat.exists_eq_add_of_lt q) ?_;clear c;intro j u;subst u;rw[if_neg (aft.mpr (Nat.succ_le_of_lt q)),if_neg (aft.mpr (agV q)),Nat.add_sub_add_right,agH,show σ.n+j+1-σ.n=j+1 from agH (n:=σ.n) (m:=j+1)];rfl
theorem PQ (args:List O) (l:List (Nat×Option Nat)):(qq args l).length=l.length:=by
 induction l with
 |nil=>rfl
 |cons p r c=>exact congrArg (·+1) c
theorem PR (args:List O)(l:List (Nat×Option Nat)):∀ (i:Nat),(qq args l)[i]?=(l[i]?).map λp=>AQ args p.2:=by
 induction l with
 |nil=>exact λi=>rfl
 |cons p r c=>intro i;induction i using aeI with
  |zero=>rfl
  |succ i=>exact c i
theorem So:∀ {i:Nat}{args:List O}{j:Nat}{v:O},lk j (tf fs i args)=some v->∃ t,j=i+t/\fs[t]?=some true/\args[t]?=some v:=by
 induction fs with
 |nil=>exact λh=>nomatch h
 |cons b fs c=>
  intro i args j v h;induction args using aeC with
  |nil=>exact aT h
  |cons a args=>
   have d:lk j (tf fs (i+1) args)=some v->∃ t,j=i+t/\(b::fs)[t]?=some true/\(a::args)[t]?=some v:=λh=>by
    refine cK (c h) ?_;clear c;intro t A W f;exact (dJ (t+1) (A.trans (ahe _ _)) W f)
   induction b using aen with
   |false=>exact d h
   |true=>
    have h:lk j ((i,a)::tf fs (i+1) args)=some v:=h;rw[eD]at h;by_cases e:j=i
    ·rw[if_pos e]at h;exact (dJ 0 e rfl h)
    ·rw[if_neg e]at h;exact d h
theorem Sp:∀ {n j i:Nat},lk j (wm l n)=some i->∃ t p,i=n+t/\l[t]?=some p/\p.1=j:=by
 induction l with
 |nil=>exact λh=>nomatch h
 |cons p r c=>
  intro n j i h;have h:lk j ((p.1,n)::wm r (n+1))=some i:=h;rw[eD]at h;by_cases e:j=p.1
  ·rw[if_pos e]at h;exact (bB 0 p ((aej h).symm) rfl e.symm)
  ·rw[if_neg e]at h;refine aH (c h) ?_;clear c h;intro t d A W a;exact (bB (t+1) d (A.trans (ahe _ _)) W a)
noncomputable def qD (a:List Str)(x:Str):Option Nat:=let i:=a.findIdx (· ==x);if i<a.length then some i else none
structure k8 (W:Wd)(fd:aJ)(E:aM):Prop where
 n:E.n=fd.params.length
 gV:E.gV=fd.di
 Bu:∀ (i:Nat)x,fd.params[i]?=some x->∃ k,fd.scope.names[i]?=some (x,k)/\(E.flags[i]?=some true->k=.local)
 LC:E.flags.length<=fd.params.length
 ra:fd.params.Nodup
 Bv:(jS fd.scope).Nodup
 cells:E.cells.length=(jS fd.scope).length/\∀ (i:Nat)x,(jS fd.scope)[i]?=some x->∃ n k,E.cells[i]?=some (n,qD fd.params x)/\fd.scope.names[n]?=some (x,k)/\eO fd.scope x=false
 body:∀ call d,dw W d call->∀ (c:Cx W)A,ak c->aP c d A->c.comp=none->c.scope=fd.scope->(∀ x,fd.code=some x->c.env.code=.ref x.1/\c.env.qual=x.2)->cA c A fd.body (E.body call)
theorem lookup_mem{α:Type}{v:α}{l:List (Str×α)}:l.lookup x=some v->(x,v)∈l:=by
 induction l with
 |nil=>exact λh=>nomatch h
 |cons p l c=>
  intro h;rw[show p=(p.1,p.2)from rfl,kK]at h;by_cases e:x=p.1
  ·rw[if_pos e]at h;rw[e,←aej h];exact .head _
  ·rw[if_neg e]at h;exact .tail _ (c h)
theorem Eb{α:Type}{l:List (Str×α)}:(l.map (·.1)).Nodup->l.reverse.lookup x=l.lookup x:=by
 induction l with
 |nil=>exact λa=>rfl
 |cons p l d=>
  intro c;refine ae (ae3.mp c) ?_;clear c;intro A W;rw[agp,List.lookup_append,d W,show p=(p.1,p.2) from rfl,kK,kK];by_cases e:x=p.1
  ·rw[if_pos e];induction q:l.lookup x using aeB with
   |none=>rw[if_pos e];rfl
   |some b=>exact absurd (aeF (f:=λp:Str×α=>p.1) (lookup_mem q)) (e▸A)
  ·rw[if_neg e,if_neg e]
   cases l.lookup x<;>rfl
theorem Ec{α:Type}{b:List Str}:∀ {vs:List α}{i:Nat}{x:Str}{v:α},b.Nodup->b[i]?=some x->vs[i]?=some v->(b.zip vs).lookup x=some v:=by
 induction b with
 |nil=>exact λj h=>nomatch h
 |cons p b W=> intro vs i x v A c d;refine ae (ae3.mp A) ?_;clear A;intro f g;induction vs using aeC with
  |nil=>exact aT d
  |cons a vs=> rw[List.zip_cons_cons,kK];induction i using aeI with
   |zero=>rw[if_pos (aej c).symm];exact d
   |succ i=>rw[if_neg λe:x=p=>f (e▸aeV (show b[i]?=some x from c))];exact W g c d
theorem DV{α:Type}{f:Str->Bool}(a:f x=true){l:List (Str×α)}:(l.filter λp=>f p.1).lookup x=l.lookup x:=by
 induction l with
 |nil=>rfl
 |cons p l c=>
  rw[sh,show ahU x (p::l)=_ from kK];by_cases q:f p.1=true
  ·rw[if_pos q,show ahU x (p::l.filter λp=>f p.1)=_ from kK,c]
  ·rw[if_neg q,c,if_neg λe:x=p.1=>q (e▸a)]
theorem D3{α:Type}{f:Str->Bool}{l:List (Str×α)}(h:(l.map (·.1)).Nodup):((l.filter λp=>f p.1).map (·.1)).Nodup:=
 List.Sublist.nodup (List.Sublist.map _ List.filter_sublist) h
theorem QT (H:k8 W fd E) (h:fill E args=some a):mr fd args=some (fd.params.zip a)/\a.length=fd.params.length:=by
 induction e:AP args E.n using aen with
 |true=> have c:args.length=fd.params.length:=(Sm e).trans H.n;unfold fill at h;rw[e]at h;have A:=aej h;subst a;refine ⟨?_,c⟩;unfold mr;rw[if_pos ⟨agh c,c▸ae0 _ _⟩,c,Nat.sub_self,Nat.sub_zero,ahJ,agD]
 |false=> unfold fill at h;rw[e]at h;have h:aN none (and (aeZ args.length E.n) (aeZ E.n (ahT args.length E.gV.length))) (some (args++E.gV.drop (Nat.sub E.gV.length (Nat.sub E.n args.length))))=some a:=h;rw[H.n,H.gV]at h;refine ae (aS h aO) ?_;clear h;intro e b;refine ae (aei.mp e) ?_;clear e;intro c d;have c:args.length<=fd.params.length:=aer c;have d:fd.params.length<=args.length+fd.di.length:=aer d;have A:=aej b;subst a;refine ⟨if_pos ⟨c,d⟩,?_⟩;show (args++List.drop (fd.di.length-(fd.params.length-args.length)) fd.di).length=_;rw[agU,List.length_drop,Nat.sub_sub_self (Nat.sub_le_of_le_add (Nat.add_comm _ _▸d)),aiS c]
theorem Sq {fd:aJ} {E:aM} (H:k8 W fd E) {c':Cx W} (iU:ak c') (wo:c'.comp=none) (R:SR c σ s α N) (hsc:c'.env.scope=fd.scope) (ks:c'.env.cells=afO (L'+1) fd.scope.names []) (l:a.length=fd.params.length) (iG:σ.n+E.cells.length<=1024)
  (z:aU W.kt α N binds (fd.params.zip a)) {h₁:afm} {t:Nat} {cells}
  (F':Fr c'.h₀ c'.L h₁ (bindL c'.env.kindOf binds λk=>none)) (M:c'.ax=c.ax) (N':agM c'.h₀ c'.L h₁ (cells++(N++c.ax))) (qb:CellsAre (bindC c'.env.kindOf binds λk=>none) (afO (L'+1) fd.scope.names []) cells) (bN:∀ p∈N++c.ax,p.1<L') (mV:af1<L'):
  ∃ bG,SR c' (enter E a σ) {s with heap:=h₁,toks:=t} bG (cells++N)/\Sts σ α N (enter E a σ) bG (cells++N):=by
 refine ae (PO qb) λP y2=>?_
 refine ae (Ph fd.scope.names (L'+1)) λz1 z2=>?_
 have F:jS fd.scope=(afO (L'+1) fd.scope.names []).map (·.1):=(Pa fd.scope.names (L'+1)).symm
 have Q:E.cells.length=(afO (L'+1) fd.scope.names []).length:=by rw [H.cells.1,F,ahr]
 generalize uF:afO (L'+1) fd.scope.names []=d at*
 have LD:∀ a∈d.map (·.2),a∉(N++c.ax).map (·.1):=λa l S=>by
  refine Y (aeP.mp l) ?_;intro p A C;subst C
  refine Y (aeP.mp S) λq T e=>?_
  have l1:=z1 p A
  have l2:=bN q T
  rw [e]at l2
  exact absurd l2 (aft.mpr (Nat.le_of_succ_le l1))
 have off:∀ a∈d.map (·.2),a∉N.map (·.1):=λa l S=>LD a l (by rw [aeX];exact aeo _ S)
 have g:Ge α N (α++d.map (·.2)) (cells++N):=⟨ah3 _ _,λp A k=>aeu _ A,λa h=>by
  rcases aeQ.mp h with h|h
  ·exact .inl h
  ·exact .inr (off a h),λk ps h=>⟨ps,aeu _ h⟩⟩
 have LF:(qq a E.cells).length=E.cells.length:=PQ a _
 obtain ⟨b1,b2,r,b4,V,b6,b7⟩:=ze (qq a E.cells) ⟨tf E.flags 0 a,wm E.cells σ.n,σ.st,σ.n,σ.lo,σ.mark⟩ R.wf (by show σ.n+_<=1024;rw [LF];exact iG)
 rw [LF]at r b7
 change (enter E a σ).loc=_ at b1
 change (enter E a σ).aK=_ at b2
 change (enter E a σ).n=σ.n+E.cells.length at r
 change (enter E a σ).lo=σ.lo at b4
 change (enter E a σ).mark=σ.mark at V
 change Wf 10 (enter E a σ).st at b6
 have X:∀ i,i<σ.n+E.cells.length->(enter E a σ).st.get i=if i<σ.n then σ.st.get i else (qq a E.cells)[i-σ.n]?:=b7
 have LG:(fd.params.zip a).map (·.1)=fd.params:=by rw [List.map_fst_zip (agh l.symm)]
 have st:Sts σ α N (enter E a σ) (α++d.map (·.2)) (cells++N):=⟨g,by rw [b4];exact aeD _,λi m=>by
  rw [b4]at m
  have:i<σ.n:=aet m R.low
  rw [X i (aet this (ae0 _ _)),if_pos this],by rw [r];exact ae0 _ _,V,λk k k k k h k=>aeu _ h,λi m=>⟨by
  have:i<σ.n:=R.bt i m
  rw [X i (aet this (ae0 _ _)),if_pos this],λk k k h=>aeu _ h⟩⟩
 refine (ay (α++d.map (·.2)) ⟨(ay _ F' ?_),?_,by rw [M,afP];exact N',?_,?_,λi qc m e=>?_,?_,λp A=>?_,b6,by rw [r];exact iG,?_,by rw [b4,r];exact aeE R.low (ae0 _ _),(λi h=>by rw [V]at h;rw [r];exact aet (R.bt i h) (ae0 _ _)),R.gens,R.os,iU.aZ.keeps F'.keep⟩ st)
 ·unfold NR
  rw [wo,b1]
  intro j v Z
  refine cK (So Z) λi G I D=>?_
  rw [ahh]at G
  subst G
  have m:j<fd.params.length:=by rw [←l];exact (ae4.mp D).1
  refine Y (H.Bu j _ (aeW m)) λqa o L=>?_
  obtain rfl:=L I
  have Ni:c'.scope.names=fd.scope.names:=congrArg Scope.names hsc
  have hl:eO c'.env.scope fd.params[j]=true:=se.mpr (by rw [hsc];exact eX (by rw [←Ni];exact iU.cW) o)
  have ig:((fd.params.zip a).filter λp=>eO c'.env.scope p.1).reverse.lookup fd.params[j]=some v:=by
   rw [Eb (D3 (by rw [LG];exact H.ra)),DV (f:=λx=>eO c'.env.scope x) hl]
   exact Ec H.ra (aeW m) D
  refine Y ((z.filter (λx=>eO c'.env.scope x)).reverse.Nh v ig) λval w1 w2=>?_
  refine (dy _ _ val (by rw [show c'.scope.names=fd.scope.names from Ni];exact o) ?_ (w2.mono g))
  rw [Sk,w1];rfl
 ·rw [b2,ks]
  intro j i Z
  refine aH (Sp Z) λt p G I D=>?_
  subst G
  have u:t<d.length:=by rw [←Q];exact (ae4.mp I).1
  have hx:(jS fd.scope)[t]?=some d[t].1:=by rw [F,aga,aeW u];rfl
  refine aH (H.cells.2 t _ hx) λn qa o L q3=>?_
  rw [I]at o
  have C:=aej o;clear o;subst p
  dsimp only at D
  subst D
  refine (dy _ qa (d[t].2) (by rw [show c'.scope=fd.scope from hsc];exact L) ?_ ?_)
  ·have nd:(d.map (·.1)).Nodup:=by
    rw [←F]
    exact H.Bv
   exact eX nd (by rw [aeW u])
  ·rw [ag3 (by rw [R.len];exact ae0 _ _),R.len,agH,aga,aeW u]
   rfl
 ·rw [M,afP,aeX,P]
  exact ae7.mpr (bH z2 R.nodup (λa l b z e=>LD a l (e▸z)))
 ·exact ae7.mpr (bH R.inj z2 (λa l b z e=>off b z (e▸R.all a l)))
 ·rw [r]at m
  rw [X i m]at e
  by_cases q:i<σ.n
  ·rw [if_pos q]at e
   refine aH (R.obj i qc q e) λa b h1 y h3=>?_
   exact (bB a b (g.at h1) (aeu _ y) (h3.mono g λk k k k h k=>aeu _ h))
  ·rw [if_neg q,PR]at e
   refine Y (af8.mp e) ?_;intro p A C;subst C
   have f5:σ.n<=i:=aft.mp q
   have u:i-σ.n<d.length:=by rw [←Q];exact Nat.sub_lt_left_of_lt_add f5 m
   have hx:(jS fd.scope)[i-σ.n]?=some d[i-σ.n].1:=by rw [F,aga,aeW u];rfl
   refine aH (H.cells.2 _ _ hx) λn qa o L q3=>?_
   rw [A]at o
   have C:=aej o;clear o;subst p
   refine Y (y2 (i-σ.n) d[i-σ.n].1 d[i-σ.n].2 (aeW u)) λoc h1 y=>?_
   refine (bB (d[i-σ.n].2) oc ?_ (aeo _ (aeV h1)) ?_)
   ·rw [ag3 (by rw [R.len];exact f5),R.len,aga,aeW u];rfl
   ·rw [Sl]at y
    have hf:(λx=>!eO c'.env.scope x) d[i-σ.n].1=true:=by
     show (!eO c'.env.scope d[i-σ.n].1)=true
     rw [hsc,q3];rfl
    have Nj:=(z.filter (λx=>!eO c'.env.scope x)).reverse
    have lo:(List.filter (λp=>!eO c'.env.scope p.1) (fd.params.zip a)).reverse.lookup d[i-σ.n].1=(fd.params.zip a).lookup d[i-σ.n].1:=by
     rw [Eb (D3 (f:=λx=>!eO c'.env.scope x) (by rw [LG];exact H.ra)),DV (f:=λx=>!eO c'.env.scope x) hf]
    by_cases B:fd.params.findIdx (· ==d[i-σ.n].1)<fd.params.length
    ·have abv:fd.params[fd.params.findIdx (· ==d[i-σ.n].1)]?=some d[i-σ.n].1:=by
      rw [aeW B]
      have:=List.findIdx_getElem (w:=B)
      exact congrArg some (beq_iff_eq.mp this)
     have Nk:fd.params.findIdx (· ==d[i-σ.n].1)<a.length:=by rw [l];exact B
     have lz:=Ec (vs:=a) H.ra abv (aeW Nk)
     refine Y (Nj.Nh _ (lo.trans lz)) λval w1 w2=>?_
     rw [w1]at y
     rw [show qD fd.params d[i-σ.n].1=_ from if_pos B,show AQ a (some (fd.params.findIdx (· ==d[i-σ.n].1)))=.cell (nu a _) from rfl,sM,aeW Nk]
     exact .cell y (w2.mono g)
    ·have lz:(fd.params.zip a).lookup d[i-σ.n].1=none:=by
      induction q:(fd.params.zip a).lookup d[i-σ.n].1 using aeB with
      |none=>rfl
      |some v=>
       have:=List.of_mem_zip (lookup_mem q)
       exact absurd (List.findIdx_lt_length_of_exists (p:=(· ==d[i-σ.n].1)) (ay _ this.1 (beq_self_eq_true _))) B
     rw [Nj.lk0 (lo.trans lz)]at y
     rw [show qD fd.params d[i-σ.n].1=_ from if_neg B]
     exact .mq y
 ·intro a h
  rw [aeX,P]
  rcases aeQ.mp h with h|h
  ·exact aeu _ (R.all a h)
  ·exact aeo _ h
 ·rw [M,afP]at A
  rcases aeQ.mp A with A|A
  ·have:p.1∈cells.map (·.1):=aeF A
   rw [P]at this
   refine Y (aeP.mp this) λq T e=>?_
   have:=z1 q T
   rw [e]at this
   exact beq_eq_false_iff_ne.mpr (agu (aet (afg mV) this))
  ·exact R.hi p A
 ·rw [agU,ahr,r,Q,R.len]
theorem Ab (h:a+1+b<=890):a<recursionLimit:=agg (aeE (af7 _) (aeE (ae0 _ _) h)) (by decide)
theorem mv (h:a+m*(n+1)<=l) (k:Nat) (b:k<=m):a+k+m*n<=l:=aeE (by rw[Nat.mul_succ,Nat.add_assoc,Nat.add_comm k];exact agJ (agJ b _) _) h
theorem vP{α:Type}{l r:List α}(h:l.length=n)(j:Nat):(l++r)[n+j]?=r[j]?:=by
 subst h;rw[ag3 (ae0 _ _),agH]
theorem EX{l:List Env}{L b:aez}(a:env.frame=some L):b∈(env::l).filterMap (·.frame)↔b=L\/b∈l.filterMap (·.frame):=by
 rw[List.filterMap_cons_some a,aeA]
theorem Eo (r:u.frames=some (c'.bF::c'.outer)) (j:c'.bF.frame=some c'.L) (x:XR c' C e X h Z v) {Q:Unit->aep->Prop}{w:ael->aep->Prop}
  (k:∀ a B G m h',e=.ref a->c'.base.StaysIn B->Fr c'.h₀ c'.L G m->(∀ b o,G.get? b=some o->b∉ph c'->B.get? b=some o)->(∀ q∈v++c'.ax,B.get? q.1=some q.2/\c'.h₀.get? q.1=none/\q.1≠c'.L)->G.UpToSlots h'->
   B.StaysIn h'->B.get? a=none->h'.FunFrames B c'.outer->(∃ a0,h'.TracedW B a (.ref C) a0)->Q () {h with heap:=h'}):WP W u (leaving c'.bF e) Q w h:=by
 obtain ⟨hg,nv,a,B,G,m,rfl,y,z,h3,D,E,F,n,i,p,H⟩:=x;have fin:∀ {a0 h'},B.StaysIn h'->h'.FunFrames B (c'.bF::c'.outer)->h'.TracedW B a (.ref C) a0->h.heap.UpToSlots h'->Q () {h with heap:=h'}:=λd A c f=>by
  refine bU A ?_;clear A;intro I I M;exact k a B G m _ rfl y z D E (F.trans f) d i M ⟨_,c⟩
 rcases H with ⟨oe,vs,a0,N,P,R,S,T⟩|⟨a0,fl,t,rfl|rfl⟩
 ·refine wpAny_leaving_firstW r p j N n i R T S λh' g=>?_
  refine j5 g ?_;clear g;intro d A c f;rw[P]at c;exact fin d A c f
 ·refine wpAny_leaving_nextW r p j t n i λh' g=>?_
  refine j5 g ?_;clear g;intro d A c f;exact fin d A c f
 ·unfold leaving;refine aek (wpAny_noteFrame_againW j t ?_);refine wpAny_landsW (base:=B) (l:=c'.bF::c'.outer) (L:=c'.L) (cls:=.ref C) (a0:=a0) (j6 n i p t) λh' s f=>?_
  refine j5 s ?_;clear s;intro d A c V;exact fin d c V f
theorem vQ{d':Nat}{call:Call}(qE:dw W d' call) (b:ak c) (hf:A.frames=some (c.bF::c.outer)) (hd:A.depth+1+16*d'<=890) (hu:A.units+3+80*d'<=9000) (hh:A.handled=none)
  (H:tO W a fd qual dD) (L:k8 W fd E) (hdp:ae1 fd.di=true) (R:SR c σ s α N) (hv:ah W.kt α N vals args) (M:ae1 args=true){k:Kv}{y:Rs}
  (h:jr E call args σ k=y) (D:y≠.no){Er:ael->aep->Prop}(hE:jo c y σ α N Er)
  {P:aip->aep->Prop}(kQ:∀ v av i x z j,k av i=y->SR c i x z j->bh σ α N i z j->VR W.kt z j v av->P (.ok (.ret v)) x) (kE:∀ e x,Er e x->P (.error e) x):
  agk (aeR W.prog W.w) A (.call (.ref a) ⟨vals,[]⟩) P s:=by
 refine Y (aR (show aD .no (fill E args) (λa=>aN .no (roomF E σ) (E.body call (enter E a σ) (λi=>k .none (back σ i)) (λv i=>k v (back σ i))))=y from h) D) λaa Hl h1=>?_
 refine ae (aS h1 D) ?_;clear h1;intro CE h
 have iG:=Sn R.bD CE
 refine ae (QT L Hl) ?_;clear Hl;intro yu hlen
 obtain ⟨name,params,dV,kV,doc,pm,ct,oc,an,od,km,Q,mw⟩:=H.at_
 refine Y (mw vals args _ α N hv M yu) ?_;clear mw hv;intro binds S CF
 refine Y R.fr λm qe hm=>?_
 have ny:=Ab hd
 have hl:(binds.all λy=>fd.scope.names.lookup y.1 ==some .local ||fd.scope.names.lookup y.1 ==some .cell)=true:=aeK.mpr λy D=>by
  have:y.1∈(fd.params.zip aa).map (·.1):=S.names▸aeF D
  refine Y (aeP.mp this) ?_;clear this;intro p M e
  rcases H.loc _ (e▸PN yu p M) with q|q<;>rw[q]<;>rfl
 refine callX_cells b.below qe R.news b.lim hf b.frame b.kZ (R.aZ _ _ Q) rfl (codeRec_of R.aZ H.code) ny (CF s R.aZ) (kindsX hl) H.cell (λg B h₁ tk cells G T j qa B' st bN=>?_) H.co H.gen H.kind
 let n:Cx W:=⟨A,c.base,c.bF::c.outer,g,B,envOfC qual fd.scope B a dD,envOfC qual fd.scope B a dD,none,c.ax⟩
 have iU:ak n:=⟨b.g,b.aZ.keeps st,b.lim.keeps st,B',H.kind,H.kind,rfl,rfl,rfl,rfl,by refine gH b.top λp l mg mb qf=>?_;exact (nV p l mg mb (qf.keeps st)),H.cW,b.k7,b.ls,b.mU,λC=>rfl,(λC C e=>nomatch e),b.nq⟩
 have yv:aP n d' (A.deeper n.env):=⟨by show A.frames.map _=_;rw[hf];rfl,hd,hu,hh⟩
 have mV:af1<B:=aet (ai4 (b.lim.keeps st)) T.above
 refine Y (Sq (c':=n) L iU rfl R (L':=B) rfl rfl hlen (aer iG) S (t:=tk) T rfl j qa bN mV) ?_;clear hlen iG S T qa bN mV;intro cL R' I
 have leave:∀ {o:LS}{r:aep}{u w}{V:aip->aep->Prop}{v},SR n o r u w->Sts σ α N o u w->(SR c (back σ o) r u w->bh σ α N (back σ o) u w->V (.ok (.ret v)) r)->LeaveK c.h₀ c.L m g V v r:=by
  intro o r u w V v d f k
  refine Y d.fr λm₂ rd ot=>?_
  exact leaveK_ rd d.news λjs fY=>k ⟨(ay m js (hm.mono f.ge)),R.aK.mono f.ge,fY,d.nodup,d.inj,d.obj,d.all,d.hi,d.wf,d.bD,d.len,d.low,(λqg h=>d.bt qg (f.mark▸h)),d.gens,d.os,d.aZ⟩ ⟨⟨f.ge,f.lo,f.same,f.n,rfl,f.obs,f.bf⟩,rfl⟩
 have body:=L.body call d' qE n _ iU yv rfl rfl H.cd
 refine body _ _ _ y h D _ cL _ _ R' (λqh e i x z j q kp qb=>?_) _ (λo r u w X d f=>?_) λav o v r u w X d f pk=>?_
 ·have uG:Kp σ α N (back σ i) z j:=⟨(I.kp.trans kp).ge,rfl,(I.kp.trans kp).bf⟩
  obtain ⟨hg,nv,_⟩:=id qb
  refine Eo yv.frames rfl qb λBw qi qk m₁ h' ea b1 Z b3 b4 b5 b6 b7 b8 b9=>kE _ _ (hE qh e (back σ i) _ z j q uG rfl ⟨hg,nv,Bw,qi,g,m,ea,b1,G,hm.mono uG.ge,λqc qd q1 q2=>b3 qc qd (Z.keep qc qd q1) λF=>?_,λq hq=>?_,(agI Z.keep).trans b5,b6,b7,b8,.inr ?_⟩)
  ·rcases (EX (l:=c.bF::c.outer) (show n.bF.frame=some B from rfl)).mp F with F|F
   ·rw[F,kts_self Z]at q1;exact aT q1
   ·exact q2 F
  ·refine bU (b4 q hq) ?_;clear b4 hq;intro z1 z2 z3
   refine (bH z1 (kts_none G.keep z2) (λqj=>?_))
   refine kW G.ns ?_;clear G;intro C C C Q C
   have uH:g.get? q.1=none:=z2
   rw[qj,Q]at uH
   exact nk uH
  ·refine aL b9 ?_;clear b9;intro a0 t
   exact (gJ a0 .none t.at (.inl rfl))
 ·exact leave d (I.trans f) λbW dN=>kQ _ _ _ _ _ _ X bW dN .none
 ·exact leave d (I.trans f) λbW dN=>kQ _ _ _ _ _ _ X bW dN pk
theorem SR.inst (R:SR c σ s α N) (G:ak c) {m:Str->Option ael} (k:NR c σ.loc α N m) (y:Fr c.h₀ c.L h' m)
  (H:agM c.h₀ c.L h' ((x,ahy C f)::(f,afY [] 0)::(N++c.ax))) (r:∀ p∈N++c.ax,p.1<f) (l:f<x) (z:af1<f) (B:σ.n+2<=1024):
  SR c ((σ.push .own).push (.obj C [])) {s with heap:=h',toks:=t} (α++[f,x]) ((x,ahy C f)::(f,afY [] 0)::N)/\bh σ α N ((σ.push .own).push (.obj C [])) (α++[f,x]) ((x,ahy C f)::(f,afY [] 0)::N):=by
 have W:∀ p∈N,p.1<f:=λp A=>r p (aeo _ A)
 have I:f∉(N++c.ax).map (·.1):=λk=>by
  refine Y (aeP.mp k) λp A e=>?_
  exact afG _ (e▸r p A)
 have L:x∉(N++c.ax).map (·.1):=λk=>by
  refine Y (aeP.mp k) λp A e=>?_
  exact afG _ (agt l (e▸r p A))
 have D:f∉N.map (·.1):=λk=>by
  refine Y (aeP.mp k) λp A e=>?_
  exact afG _ (e▸W p A)
 have E:x∉N.map (·.1):=λk=>by
  refine Y (aeP.mp k) λp A e=>?_
  exact afG _ (agt l (e▸W p A))
 have g:Ge α N (α++[f,x]) ((x,ahy C f)::(f,afY [] 0)::N):=⟨ah3 _ _,λd h d=>.tail _ (.tail _ h),λa h=>by
  rcases aeQ.mp h with h|h
  ·exact .inl h
  ·right
   rcases aeA.mp h with rfl|h
   ·exact D
   ·rw [aev.mp h];exact E,λd M h=>⟨M,.tail _ (.tail _ h)⟩⟩
 have u:∀ i,i<σ.n+2->((σ.push .own).push (.obj C [])).st.get i=if i<σ.n then σ.st.get i else [AO.own,.obj C []][i-σ.n]?:=(ze [.own,.obj C []] σ R.wf B).get
 have st:bh σ α N ((σ.push .own).push (.obj C [])) (α++[f,x]) ((x,ahy C f)::(f,afY [] 0)::N):=⟨⟨g,aeD _,λi hi=>by
  have dv:i<σ.n:=aet hi R.low
  rw [u i (aet dv (ae0 _ _)),if_pos dv],ae0 σ.n 2,rfl,λd d d d d h d=>.tail _ (.tail _ h),λi hi=>⟨by
  have dv:i<σ.n:=R.bt i hi
  rw [u i (aet dv (ae0 _ _)),if_pos dv],λd d d h=>.tail _ (.tail _ h)⟩⟩,rfl⟩
 have n:=R.len
 refine ⟨⟨(ay m y (k.mono g)),R.aK.mono g,H,?_,?_,λi v hi e=>?_,?_,?_,R.wf.set.set,B,?_,aeE R.low (ae0 σ.n 2),(λi h=>aet (R.bt i h) (ae0 σ.n 2)),R.gens,R.os,G.aZ.keeps y.keep⟩,st⟩
 ·rw [ahd,ahd,aeU,aeU]
  refine ae3.mpr ⟨λq=>?_,ae3.mpr ⟨I,R.nodup⟩⟩
  rcases aeA.mp q with q|q
  ·exact agu l q
  ·exact L q
 ·refine ae7.mpr (bH R.inj ?_ (λa F b o=>?_))
  ·refine ae3.mpr ⟨?_,afe _ _⟩
   rw [aev];exact aeN l
  ·rintro rfl
   rcases aeA.mp o with rfl|o
   ·exact D (R.all _ F)
   ·rw [aev] at o;subst o;exact E (R.all _ F)
 ·have hi:i<σ.n+2:=hi
  rw [u i hi] at e
  by_cases q:i<σ.n
  ·rw [if_pos q] at e
   refine aH (R.obj i v q e) λa b W l P=>?_
   exact (bB a b (g.at W) (.tail _ (.tail _ l)) (P.mono g λd d d d h d=>.tail _ (.tail _ h)))
  ·rw [if_neg q] at e
   refine aL (Nat.exists_eq_add_of_le (aft.mp q)) ?_;clear q;intro j w;subst w
   rw [agH] at e
   induction j using aeI with
   |zero=>
    have w:=aej e;subst v
    exact ⟨f,_,vP n 0,.tail _ (.head _),.own⟩
   |succ j=>induction j using aeI with
    |zero=>
     have w:=aej e;subst v
     exact ⟨x,_,vP n 1,.head _,.obj rfl (vP n 0) (.tail _ (.head _)) .nil⟩
    |succ j=>exact aT e
 ·intro a h
  rw [aeU,aeU]
  rcases aeQ.mp h with h|h
  ·exact .tail _ (.tail _ (R.all a h))
  ·rcases aeA.mp h with rfl|h
   ·exact .tail _ (.head _)
   ·rw [aev.mp h];exact .head _
 ·intro p A
  rcases aeA.mp A with rfl|A
  ·exact beq_eq_false_iff_ne.mpr (agu (agt z l))
  ·rcases aeA.mp A with rfl|A
   ·exact beq_eq_false_iff_ne.mpr (agu z)
   ·exact R.hi p A
 ·show (α++[f,x]).length=σ.n+1+1
  rw [agU,n];rfl
theorem QU {prog:ae9}{w:afq}{A:ae6}{E:ael->aep->Prop}{m:Str->Option ael}{K:afV}{Q:ael->aep->Prop}{pos:List ael}{b:List (Str×ael)}{f:aez}(F:Fr a L s.heap m) (j:K.In a) (N:agM a L s.heap k) (l:makesIn K C=true) (n:ags K (.ref C) "__init__" =some (some (.ref f))) (o:isFn K (.ref f)=true) (h:∀ h',Fr a L h' m->agM a L h' ((s.heap.objs.size+1,ahy C s.heap.objs.size)::(s.heap.objs.size,afY [] 0)::k)->  agk (aeR prog w) (A.under (.builtin "type.__call__" ⟨.ref C::pos,b⟩)) (.call (.ref f) ⟨.ref (s.heap.objs.size+1)::pos,b⟩) (InitBack (s.heap.objs.size+1) λr i=>match r with|.ok (.ret v)=>Q v i|.ok p=>False|.error e=>E e i) {s with heap:=h'}): aeO (aeR prog w) A (afl (.ref C) pos b) Q E s:=by
 refine agR ?_;have X:=j.keeps F.keep;obtain ⟨c,g,d,t,os⟩:=s;refine make_core (makes_of X l) (ajx X n) (λself=>bind_fn X self (beq_iff_eq.mp o)) (.inl rfl) (h _ ((F.push _).push _) ?_)
 have:=(N.push F emptyDict).push (F.push _) (ahy C c.objs.size);rwa [af9] at this
theorem Ep(x:Args):(af3 "type.__call__" x).weight<=4:=by
 have c:(af3 "type.__call__" x).isGuard=false:=by kernel_rfl
 have d:(af3 "type.__call__" x).isCaller=false:=by kernel_rfl
 have A:(af3 "type.__call__" x).frames=0:=by kernel_rfl
 unfold Code.weight;rw[c,d,A];split<;>simp
theorem Sr (x:Args):(af3 "type.__call__" x).cUnits<=16:=by
 have:(af3 "type.__call__" x).cUnits=1:=by kernel_rfl
 exact aeE (agh this) (by decide)
theorem UB(x:Args):(af3 "type.__call__" x).envs=[]:=by kernel_rfl
noncomputable abbrev Tab:=aez->Option aM
noncomputable abbrev rC:=aez->Option aez
structure mz(W:Wd)(T:Tab)(I:rC):Prop where
 fn:∀ a E,T a=some E->∃ fd,W.G.fn a=some fd/\k8 W fd E/\ae1 fd.di=true
 init:∀ a f,I a=some f->W.G.init a=some f
noncomputable def AR (T:Tab) (I:rC) (call:Call) (a:aez) (args:List O):Ev:=λc k=>ae2 (aD .no (I a) λf=>aD .no (T f) λE=>aN .no (aeZ (ahT c.n (nat_lit 2)) bD) (jr E call (.ref (afk c.n)::args) ((c.push .own).push (.obj a [])) λv d=>j4 .no v (k (.ref (afk c.n)) d))) (λE=>jr E call args c k) (T a)
theorem Ss{T:Tab}{I:rC}(HT:mz W T I){call:Call}(C:dw W d call) (b:ak c) (f:aP c (d+1) A){k y}(h:AR T I call a args σ k=y) (i:y≠.no){s:aep}{α N E}(R:SR c σ s α N) (D:jo c y σ α N E){vals:List ael}(j:ah W.kt α N vals args) (m:ae1 args=true)
  {Q:ael->aep->Prop}(G:fZ c y σ α N k Q):WP W A (afl (.ref a) vals) Q E s:=by
 have X:=mv f.depth 1 (by decide)
 have Z:=mv f.units 3 (by decide)
 unfold AR at h;induction l:T a using aeB with
 |some EE=>
  rw [l] at h;refine cK (HT.fn _ _ l) λfd n o q=>?_
  refine eZ (b.g.fn _ _ n) λqual dD H=>?_
  exact agR (vQ C b f.frames X Z f.handled H o q R j m h i D (λv av bu r bG u e w g j=>G _ _ _ _ _ _ e w g j) λe r x=>x)
 |none=>
  rw [l] at h;refine Y (aR h i) λqa hI h3=>?_
  refine Y (aR h3 i) λEE l h4=>?_
  refine ae (aS h4 i) λz h5=>?_
  have z:σ.n+2<=1024:=aer z;refine cK (HT.fn _ _ l) λfd n o q=>?_
  refine eZ (b.g.fn _ _ n) λqual dD H=>?_
  refine bU (b.g.init _ _ (HT.init _ _ hI)) λp1 p2 p3=>?_
  refine Y R.fr λqb F hm=>?_
  have abw:=b.lim.keeps F.keep;refine QU F b.aZ R.news p1 p2 p3 λh' F' u=>?_
  have l1:∀ p∈N++c.ax,p.1<s.heap.objs.size:=λp m=>aeS (R.news p m).1
  refine ae (R.inst b (t:=s.toks) hm F' u l1 (agy _) (ai4 abw) z) λw g=>?_
  have B:VR W.kt (α++[s.heap.objs.size,s.heap.objs.size+1]) ((s.heap.objs.size+1,ahy a s.heap.objs.size)::(s.heap.objs.size,afY [] 0)::N) (.ref (s.heap.objs.size+1)) (.ref (σ.n+1)):=.ref (vP R.len 1);have L:(af3 "type.__call__" ⟨.ref a::vals,[]⟩).weight<=4:=Ep _;have M:(af3 "type.__call__" ⟨.ref a::vals,[]⟩).cUnits<=16:=Sr _;have P:(af3 "type.__call__" ⟨.ref a::vals,[]⟩).envs=[]:=UB _;generalize af3 "type.__call__" ⟨.ref a::vals,[]⟩=S at L M P;have lO:ae1 (.ref (afk σ.n)::args)=true:=vM B m;refine vQ C b (A:=A.under S) ?_ ?_ ?_ f.handled H o q w (.cons B (j.mono g.ge)) lO h5 i (D.step g.kp rfl) (λv av bu r bG u e cw V j=>?_) λe r x=>x
  ·show pushEnvs S.envs A.frames=_;rw [P];exact f.frames
  ·exact aeE (ag8 (ag8 (agJ L _) 1) _) (mv f.depth 5 (by decide))
  ·exact aeE (ag8 (ag8 (agJ M _) 3) _) (mv f.units 19 (by decide))
  ·refine ae (nL e i) ?_;clear e i;intro bj e;subst bj;obtain rfl:v=.none:=j.inv;exact⟨rfl,G _ _ _ _ _ _ e cw (g.trans V) (B.mono V.ge)⟩
noncomputable def qr(e:aeM):Bool:=match e with
 |.Slice ..=>false
 |_=>true
theorem vy (h:qr a=true)(o i:ael):subscripted a false o i=operate [o,i] (getItem o i):=by
 induction a using afK<;>first|rfl|exact aX h
theorem zL (R:SR c σ s α N) (f:eE σ.st a=some l) (h:VR W.kt α N v a):∃ x vs n,v=.ref x/\s.heap.get? x=some (aeG vs.toArray n)/\ah W.kt α N vs l:=by
 rcases V8 (FA f) with rfl|⟨i,rfl,A⟩
 ·refine gC h.inv ?_;intro x vs n d g k r;subst d;exact (dy _ _ _ rfl (R.get g) r)
 ·refine eJ (R.at A h) ?_;clear A h;intro x b d m j e;subst d;refine be e.inv ?_;clear e;intro vs n d r;subst d;exact (dy _ _ _ rfl (R.get j) r)
theorem jT (R:SR c σ s α N) (b:eE σ.st a=some l) (h:VR W.kt α N v a):∃ x vs,v=.ref x/\s.heap.IsList x vs.toArray/\ah W.kt α N vs l:=by
 refine cj (zL R b h) ?_;clear R b h;intro x vs n e d r;exact (bB x vs e (fC _ d rfl _ rfl) r)
noncomputable def rf (l:List O):Nat->Option O:=aeL (motive:=λc=>Nat->Option O) (λc=>none) (λa c d n=>ew a (λc c=>none) (af6 (some a) (λm c=>d m) n)) l
theorem Es (h:a.sure=true):rf (a::l) n=af6 (some a) (λm b=>rf l m) n:=by
 rcases fD a with⟨c,v,rfl⟩|d
 ·exact aX h
 ·exact d _ _
theorem UC (h:ah T α N vs l):∀ {n a},rf l n=some a->∃ v,vs[n]?=some v/\VR T α N v a:=ah.ind (P:=λvs l=>∀ {n a},rf l n=some a->∃ v,vs[n]?=some v/\VR T α N v a)
 (λh=>nomatch h) (fun{v W vs b}d _ A n a h=>by rw[Es (i7 d)]at h;induction n using aeI with
  |zero=>have e:=aej h;subst a;exact⟨_,rfl,d⟩
  |succ n=>exact A (n:=n) h) (λc c c c c c h=>nomatch h) (λc c c c c h=>nomatch h) h
noncomputable def n4 (l:List O) (j:Int):Option O:=afF (motive:=λc=>Option O) j (λn=>dO (aeZ n (nat_lit 1000)) (rf l n)) λm=>dO (and (aew m (nat_lit 0)) (ae1 l)) (nu l (ago l.length))
noncomputable def wq (j:Int):Bool:=afF (motive:=λc=>Bool) j (λn=>aew n (nat_lit 1)) λc=>false
noncomputable def Bx (st:Tr) (a:O) (j:Int):Option O:=Vw.casesOn (vw st a) (λc=>none) (λl=>n4 l j) (λl=>n4 l j) (λf c=>dO (and (aew f (nat_lit 0)) (wq j)) (some (.int 0))) none
noncomputable def xo (st:Tr) (a i:O):Option O:=dU (aD none (iF st a) λc=>afM none i λx=>bw x c) i (Bx st a)
theorem UD{n m:Nat}(h:n<m):ai9 (n:Int) m=some n:=by
 unfold ai9;have c:¬ ((n:Int)<0):=by omega
 rw[if_neg c,if_pos (aei.mpr ⟨decide_eq_true (by omega),decide_eq_true (by omega)⟩)]
 rfl
theorem Su (h:0<m):ai9 (-1) m=some (m-1):=by
 unfold ai9;show (if (decide (0<=(-1:Int)+m)&&decide ((-1:Int)+m<m))=true then some ((-1:Int)+m).toNat else none)=_;rw[if_pos (aei.mpr ⟨decide_eq_true (by omega),decide_eq_true (by omega)⟩)]
 exact congrArg some (by omega)
theorem Et (r:ah T α N vs l){a}(h:n4 l j=some a):∃ v n,vs[n]?=some v/\VR T α N v a/\ai9 j vs.length=some n/\-(2^63)<=j/\j<2^63/\(0<=j->n=j.toNat)/\(j<0->-(vs.length:Int)<=j/\n=(j+vs.length).toNat):=by
 induction j using afF with
 |ofNat n=>
  refine ae (fR h) ?_;clear h;intro c h;have c:n<=1000:=aer c;refine Y (UC r h) λv e q=>?_
  exact⟨v,n,e,q,UD (ae4.mp e).1,by show _<=(n:Int);omega,by show (n:Int)<_;omega,λf=>rfl,λq=>absurd q (by show ¬ ((n:Int)<0);omega)⟩
 |negSucc m=>
  refine ae (fR h) ?_;clear h;intro c d;refine ae (aei.mp c) ?_;clear c;intro W p;obtain rfl:=aem W;rw[sM]at d;refine Y (r.at p _ _ d) λv e q=>?_
  have b:=r.len p;have A:l.length-1<l.length:=(ae4.mp d).1;have A:0<vs.length:=by omega
  exact (P6 v (vs.length-1) (b▸e) q (Su A) (by decide) (by decide) (λq=>absurd q (by decide)) (λq=>⟨by show _<=(-1:Int);omega,by show _=((-1:Int)+_).toNat;omega⟩))
theorem Wl (hc:ak c) (R:SR c σ s α N) (b:VR W.kt α N o a) (M:VR W.kt α N vi i) (h:xo σ.st a i=some v)
  (C:qr D=true) {Q:ael->aep->Prop}(k:∀ val t,VR W.kt α N val v->Q val {s with toks:=t}):WP W A (ahP P D o vi) Q E s:=by
 have tup:∀ {l:List O}{d p},VR W.kt α N o (.tup l)->n4 l d=some v->WP W A (ahP P D o (.int d p)) Q E s:=λb h=>by
  refine aH (eY R b) ?_;intro g vs y m r;subst y;refine Ea (Et r h) λval n e q S F G u u=>?_
  exact aiZ m.typeIs aja.lookup (getItem_tuple m F G (j:=n) (afi▸S) (afx.trans e) (k _ s.toks q)) (vy C _ _)
 by_cases T:some v=aD none (iF σ.st a) λV=>afM none i λg=>bw g V
 ·refine Y (aR T.symm aO) λV hd h=>?_
  refine kH R b hd aO λg es' kvs lo X nA e=>?_
  obtain rfl:=aej e;refine gE M h aO λZ p u ok h=>?_
  rcases nA.find (x:=Z) with⟨qa,val,H,I,B⟩|⟨H,_⟩
  ·have y:=aej (h.symm.trans H);subst qa;exact aiZ X.typeIs slot_dict_getitem.lookup (wpAny_getItem_of (ag7 W.prog W.w Z p) X.mapOf I (k _ _ B)) (vy C _ _)
  ·cases h.symm.trans H
 ·refine i4 M h T λd p u h=>?_
  have go:∀ w,vw σ.st a=w->(Vw.casesOn w (λu=>none) (λl=>n4 l d) (λl=>n4 l d) (λf u=>dO (and (aew f (nat_lit 0)) (wq d)) (some (.int 0))) none:Option O)=some v->WP W A (ahP P D o (.int d p)) Q E s:=λw L h=>by
   induction w using Vw.casesOn with
   |tup l=>exact tup (Ao L▸b) h
   |lst l=>
    refine aH (jT R (by unfold eE;rw[L]) b) ?_;clear R;intro g vs y m r;subst y
    refine Ea (Et r h) λval n e q S F G e4 e5=>?_
    refine aiZ m.typeIs slot_list_getitem.lookup ?_ (vy C _ _);by_cases z:0<=d
    ·exact wpAny_getItem_list m z G (afx.trans (e4 z▸e)) (k _ s.toks q)
    ·refine ae (e5 (by omega)) λz1 z2=>?_
     exact wpAny_getItem_list_neg m (by omega) (afi▸z1) F (afx.trans (afi▸z2▸e)) (k _ s.toks q)
   |tok f kk=>
    refine ae (fR h) λhq h=>?_
    obtain rfl:=aej h;refine ae (aei.mp hq) λI B=>?_
    obtain rfl:=aem I;refine be (hc.g.Nb kk) λg rr e hx=>?_
    have b:VR W.kt α N o (.tup (g::.int 0::rr)):=e▸(Gu L▸b).inv;induction d using afF with
    |ofNat n=>
     obtain rfl:=aem B;exact tup b (show rf (g::.int 0::rr) 1=_ by rw[Es hx];rfl)
    |negSucc=>exact aX B
   |_=>exact aT h
  exact go _ rfl h
noncomputable def af (o i:Ev):Ev:=λc k=>o c λa c=>i c λb c=>aD .no (xo c.st a b) λv=>k v c
theorem FR (j:ak c) (l:qr i=true) (m:aE c A o n) (p:aE c A i r):aE c A (.Subscript o i pos) (af n r):=by
 intro u k y h d s w N E R W Q x;refine Subscript_ (m u _ y h d s w N E R W _ λa F G H I L h z e B=>?_)
 refine p _ _ _ h d _ _ _ _ z (W.step e.kp) _ λb M P S T V h f g C=>?_
 refine Y (aR h d) ?_;clear h d;intro v D h;exact Wl j f (B.mono g.ge) C D l λval t q=>x _ _ _ _ _ _ h f.toks (e.trans g) q
noncomputable def Cx.with(c:Cx W)(M:Led):Cx W:={c with ax:=M}
theorem ak.with (h:ak c) (k:∀ p∈c.ax,p∈M):ak (c.with M):=⟨h.g,h.aZ,h.lim,h.below,h.kind,h.kZ,h.frame,h.iE,h.qC,h.locs,h.top,h.cW,h.k7,h.ls,h.mU,h.uz,(λC d e=>(aL (h.cin C d e) λo A=>⟨o,k _ A⟩)),h.nq⟩
theorem aP.with (h:aP c d A) (M:Led):aP (c.with M) d A:=⟨h.frames,h.depth,h.units,h.handled⟩
theorem XR.less (b:c.comp=none) (f:∀ p∈c.ax,p∈M) (x:XR (c.with M) C e σ s α N):XR c C e σ s α N:=by
 obtain⟨d,h,a,B,G,m,i,j,k,A,l,n,o,r⟩:=x;refine⟨(j6 d.1 d.2.1 (λp g=>⟨(d.2.2.1 p g).1,λt=>(d.2.2.1 p g).2 ((Y (aeP.mp t) λq W e=>aeP.mpr (ay q (f q W) e)))⟩) d.2.2.2),h,a,B,G,m,i,j,k,?_,l,λq W=>n q ?_,o,r⟩
 ·unfold NR at A ⊢;have u:(c.with M).comp=none:=b;rw[u]at A;rw[b];exact A
 ·rcases aeQ.mp W with q|q
  ·exact aeo _ q
  ·exact aeu _ (f _ q)
theorem bS.with (h:bS c y σ α N E) (a:c.comp=none) (b:∀ p∈c.ax,p∈M):bS (c.with M) y σ α N E:=λC e d A W f g i x=>h C e d A W f g i (x.less a b)
theorem NR.more (h:NR c loc α N m) (k:∀ p∈c.ax,p∈M):NR (c.with M) loc α N m:=by
 unfold NR at h ⊢
 show match c.comp with|none=>_|some (C,A)=>_
 split at h
 ·rename_i d;first|exact h|(rw[d];exact h)
 ·rename_i C A d
  first|rw[d]|skip
  refine kN h ?_;clear h;intro e o W a b f
  exact (nO e o W (k _ a) b f)
theorem Eu (h:p∈x::(N++M)):p∈N++x::M:=by
 rcases aeA.mp h with rfl|h
 ·exact aeu _ (.head _)
 ·rcases aeQ.mp h with h|h
  ·exact aeo _ h
  ·exact aeu _ (.tail _ h)
theorem pM{N M:Led}:((N++x::M).map (·.1)).Nodup↔((x::(N++M)).map (·.1)).Nodup:=by
 rw[aeX,aeU,aeU,aeX];exact List.perm_middle.nodup_iff
theorem SR.less{o:Obj}(g:ak c) (R:SR (c.with ((x,o)::c.ax)) σ s α N):∃ m,Fr c.h₀ c.L s.heap m/\NR c σ.loc α N m:=by
 refine Y R.fr λm F i=>?_
 refine (ay m F ?_);have d:match c.comp with
  |none=>el W c.scope σ.loc α N m
  |some (C,b)=>m=b/\∃ A a,(C,A)∈(x,o)::c.ax/\ahn A a/\el W c.scope σ.loc α N a:=i
 unfold NR;induction q:c.comp using aeB with
 |none=>rw[q]at d;exact d
 |some p=>
  obtain⟨C,b⟩:=p;rw[q]at d;refine Gk d ?_;clear d;intro e A a h1 j;refine aL (g.cin C b q) ?_;clear g q;intro l k;refine (Ak e A a ?_ j);rcases aeA.mp h1 with h1|h1
  ·cases h1;have h:=pM.mp R.nodup;rw[aeU,ae3]at h;exact absurd (aeF (f:=λp:aez×Obj=>p.1) (aeu N k)) h.1
  ·exact h1
theorem SR.hide{o:Obj}(f:ak c) (R:SR (c.with ((x,o)::c.ax)) σ s α N):SR c σ s α ((x,o)::N)/\bh σ α N σ α ((x,o)::N):=by
 have g:Ge α N α ((x,o)::N):=⟨afJ _,λd h d=>.tail _ h,λd h=>.inl h,λd j h=>⟨j,.tail _ h⟩⟩
 refine Y (R.less f) ?_;clear f;intro m F k;refine⟨⟨(ay m F (k.mono g)),R.aK.mono g,λp A=>R.news p (Eu A),pM.mp R.nodup,R.inj,λi o hi e=>?_,λa h=>ahH _ (R.all a h),λp A=>R.hi p (Eu A),R.wf,R.bD,R.len,R.low,R.bt,R.gens,R.os,R.aZ⟩,⟨⟨g,aeD _,λd d=>rfl,aeD _,rfl,λd d d d d h d=>.tail _ h,λd d=>⟨rfl,λd d d h=>.tail _ h⟩⟩,rfl⟩⟩
 refine aH (R.obj i o hi e) ?_;clear R hi e;intro a b l n q;refine (bB a b l (.tail _ n) ?_);exact OR.mono (W:=W) g (λd d d d h d=>.tail _ h) q
theorem SR.adopt{ao:AO}(j:ak c) (f:σ.room=true) (R:SR (c.with ((x,o)::c.ax)) σ s α N)
  (p:bh σ α N (σ.push ao) (α++[x]) ((x,o)::N)->OR W (α++[x]) ((x,o)::N) σ.n o ao):SR c (σ.push ao) s (α++[x]) ((x,o)::N)/\bh σ α N (σ.push ao) (α++[x]) ((x,o)::N):=by
 refine ae (R.hide j) λA d=>?_
 have k:=pM.mp R.nodup;rw[aeU,ae3]at k;have l:x∉N.map (·.1):=λh=>k.1 (by rw[aeX];exact aeo _ h)
 have r:x∉α:=λh=>l (R.all x h)
 have g:Ge α N (α++[x]) ((x,o)::N):=⟨ah3 _ _,λd h d=>.tail _ h,λa h=>by
  rcases aeQ.mp h with h|h
  ·exact .inl h
  ·rw[aev.mp h];exact .inr l,λd t h=>⟨t,.tail _ h⟩⟩
 have st:bh σ α N (σ.push ao) (α++[x]) ((x,o)::N):=⟨⟨g,aeD _,λi hi=>by
  have dv:i<σ.n:=aet hi R.low;rw[pV R f (afg dv),if_neg (aeN dv)],af7 _,rfl,λd d d d d h d=>.tail _ h,λi hi=>⟨by
  have dv:i<σ.n:=R.bt i hi;rw[pV R f (afg dv),if_neg (aeN dv)],λd d d h=>.tail _ h⟩⟩,rfl⟩
 refine Y (R.less j) ?_;clear j;intro m F u;refine⟨⟨(ay m F (u.mono g)),R.aK.mono g,A.news,A.nodup,?_,λi n hi e=>?_,?_,A.hi,R.wf.set,LS.vC f,?_,ag6 R.low,(λi h=>afg (R.bt i h)),R.gens,R.os,R.aZ⟩,st⟩
 ·refine ae7.mpr (bH R.inj (by simp) (λa v b w=>?_))
  rw[aev.mp w];rintro rfl;exact r v
 ·rw[pV R f hi]at e;by_cases q:i=σ.n
  ·rw[if_pos q]at e;have C:=aej e;clear e;subst n;subst q;exact (bB _ o (kG R.len) (.head _) (p st))
  ·rw[if_neg q]at e;refine aH (R.obj i n (ai8 (ail hi) q) e) ?_;clear hi q e;intro a b y z B;exact (bB a b (g.at y) (.tail _ z) (OR.mono (W:=W) g (λd d d d h d=>.tail _ h) B))
 ·intro a h;rw[aeU];rcases aeQ.mp h with h|h
  ·exact .tail _ (R.all a h)
  ·rw[aev.mp h];exact .head _
 ·show (α++[_]).length=σ.n+1;rw[agU,R.len];rfl
theorem jd(p:α <+:b)(h:b[i]?=some a)(e:i<α.length):α[i]?=some a:=by
 refine aL p ?_;clear p;intro t c;subst c;rw[ahW e]at h;exact h
theorem vD{α:List aez}{a:aez}(h:α[i]?=some a):i<α.length:=(ae4.mp h).1
theorem gj.cut{sc α f b j g}(p:α <+:f) (h:gj sc α b j) (h₁:gj sc f b g):gj sc α b g:=λn i e=>by
 refine cj (h n i e) ?_;clear h;intro x k a q r c;refine cj (h₁ n i e) ?_;clear h₁ e;intro d A W l m o;exact (dy d A W l m (jd p o (vD c)))
theorem i8.sub (p:α <+:a) (h:i8 a N v q):i8 α N v q:=by
 refine pQ h ?_;clear h;intro c d A t W b d3 d4;exact (pR c d A t W b (λq=>d3 (p.subset q)) d4)
theorem VR.cut{T α N w k}(p:α <+:w){D av}(h:VR T α N D av):∀ {v},VR T w k v av->VR T α k v av:=by
 have tup:∀ {l},(∀ j,ah T w k j l->ah T α k j l)->∀ v,VR T w k v (.tup l)->VR T α k v (.tup l):=λg v h=>by
  rcases h.inv with⟨a,o,j,n,rfl,A,W,y,E,m⟩|⟨a,j,n,V,rfl,A,m⟩
  ·exact .tup A (λq=>W (p.subset q)) y E (g _ m)
  ·exact .tupK A (g _ m)
 intro v;refine VR.rec (motive_1:=λc av c=>∀ v,VR T w k v av->VR T α k v av) (motive_2:=λc l c=>∀ j,ah T w k j l->ah T α k j l) ?_ ?_ ?_ ?_ (λc c c c c g=>tup g) (λc c g=>tup g) ?_ ?_ ?_ ?_ ?_ ?_ ?_ ?_ ?_ ?_ ?_ ?_ h v
 ·intro v h;rw[show v=.none from h.inv];exact .none
 ·intro b v h;rw[show v=.bool b from h.inv];exact .bool b
 ·intro i t v h;refine aL h.inv ?_;intro t f;subst f;exact .int _ _
 ·intro x t F v h;refine Y h.inv ?_;intro t f c;subst f;exact .str _ F
 ·intro _ _ _ _ _ _ _ g v h;refine gC h.inv ?_;intro a j n f A W m;subst f;exact .hl A (λq=>W (p.subset q)) (g _ m)
 ·intro a i e v h;refine Y h.inv ?_;intro X f s;subst f;exact .ref (jd p s (vD e))
 ·intro a v h;rw[show v=.ref a from h.inv];exact .glob a
 ·intro _ _ _ _ g v h;exact .ty (g _ h.inv)
 ·intro _ _ _ _ _ _ _ g v h;refine eJ h.inv ?_;intro a u f A W m;subst f;exact .cu A (λq=>W (p.subset q)) (g _ m)
 ·intro _ _ _ _ _ _ _ e r v h;refine sa h.inv ?_;intro a o d f A W s C;subst f;obtain rfl:=aej (e.symm.trans s);refine vn r ?_;clear r;intro Z c c c c c c c G;refine vn C ?_;clear C;intro H I L M b4 P Q R b8;exact .bY A (λq=>W (p.subset q)) e (r9 H I L M b4 P Q (R.sub p) (G.cut p b8))
 ·intro _ _ v h;exact .bR h.inv
 ·intro _ _ _ _ _ _ v h;refine eJ h.inv ?_;intro a o f A W y;subst f;exact .fk A (λq=>W (p.subset q)) y
 ·intro j h;rw[h.nil_inv];exact .nil
 ·intro _ _ _ _ q _ z B j h;refine aH (h.ck (i7 q)) ?_;clear q;intro v S f A W;subst f;exact .cons (z _ A) (B _ W)
 ·intro _ _ _ _ _ e _ _ z B j h;rcases h.p9 with⟨_,v,S,rfl,A,W⟩|⟨s,_⟩
  ·exact .yes e (z _ A) (B _ W)
  ·cases e.symm.trans s
 ·intro _ _ _ _ e _ g j h;rcases h.p9 with⟨s,_⟩|⟨_,W⟩
  ·cases e.symm.trans s
  ·exact .no e (g _ W)
theorem ah.cut (p:α <+:g) (h:ah T α N k av):∀ {v},ah T g a v av->ah T α a v av:=ah.ind (P:=λW l=>∀ {c},ah T g a c l->ah T α a c l) (λh=>by rw[h.nil_inv];exact .nil)
 (λq W d c h=>by
  refine aH (h.ck (i7 q)) ?_;intro v i j b A;subst j;exact .cons (q.cut p b) (d A))
 (λe q W d c h=>by
  rcases h.p9 with⟨_,v,i,rfl,b,A⟩|⟨f,_⟩
  ·exact .yes e (q.cut p b) (d A)
  ·cases e.symm.trans f)
 (λe W d c h=>by
  rcases h.p9 with⟨f,_⟩|⟨_,A⟩
  ·cases e.symm.trans f
  ·exact .no e (d A)) h
theorem aU.cut (p:α <+:a) (h:aU T α N e av):∀ {v},aU T a b v av->aU T α b v av:=by
 induction h with
 |nil=>intro v h;rw[h.nil_inv];exact .nil
 |cons q f c=>intro v h;refine aH h.ck ?_;clear h;intro u g d A W;subst d;exact .cons (q.cut p A) (c W)
theorem bM.cut (p:α <+:a) (h:bM P T α N e av):∀ {v},bM P T a b v av->bM P T α b v av:=by
 induction h with
 |nil=>intro v h;rw[h.nil_inv];exact .nil
 |cons q f c=>intro v h;refine cj h.ck ?_;clear h;intro t u g d A W;subst d;exact .cons (q.cut p A) (c W)
theorem OR.cut (p:α <+:k) (l:i<α.length) (h:OR W α N i E o) (h₁:OR W k m i b o):OR W α m i b o:=by
 induction h using OR.casesOn with
 |list r=>refine be h₁.inv ?_;intro F n c A;subst c;exact .list (r.cut p A)
 |dict f r=>refine Y h₁.inv λG e A=>?_;exact .dict e (r.cut p A)
 |obj q H I r=> refine ir h₁.inv ?_;clear q;intro j d L n c g s v A;subst c;exact .obj g (jd p s (agt (g▸agy j) l)) v (r.cut p A)
 |own=>exact .own
 |cell f r=>refine Y h₁.inv λu e A=>?_;exact .cell e (r.cut p A)
 |mq=>exact .mq h₁.inv
 |src=>refine sb h₁.inv ?_;intro a M t u n c w x;subst c;exact .src w x
 |any=>exact .any
 |tab y f P=>refine j1 h₁.inv ?_;clear h₁;intro Q c R z B;subst c;exact .tab y z λC D e=>(B C D e).sub p
theorem VR.low (p:α <+:m) (g:∀ q∈n,q.1∉m->q∈N) (o:∀ f k,Eng.below α.length (T.θ f k)=true) (h:VR T m n v av):Eng.below α.length av=true->VR T α N v av:=
 VR.rec (motive_1:=λv av c=>Eng.below α.length av=true->VR T α N v av) (motive_2:=λr l c=>belows α.length l=true->ah T α N r l) (λc=>.none) (λc c=>.bool _) (λc c c=>.int _ _) (λc s c=>.str _ s) (λA d i t c W b=>.tup (g _ A d) (λq=>d (p.subset q)) i t (W (pS▸b))) (λA c W b=>.tupK A (W (pS▸b))) (λA d c W b=>.hl (g _ A d) (λq=>d (p.subset q)) (W (zF▸b))) (λe b=>.ref (jd p e (aer b))) (λc c=>.glob _) (fun{_ f k}_ W _=>.ty (W (o f k))) (λA d c W b=>.cu (g _ A d) (λq=>d (p.subset q)) (W b)) (λc c c c b=>absurd b aeY) (λh c=>.bR h) (λA d i c=>.fk (g _ A d) (λq=>d (p.subset q)) i) (λc=>.nil) (λc c j a b=>.cons (j (aei.mp b).1) (a (aei.mp b).2)) (λe c c j a b=>.yes e (j (aei.mp b).1) (a (aei.mp b).2)) (λe c a b=>.no e (a (aei.mp b).2)) h
theorem ah.low (p:α <+:a) (g:∀ q∈j,q.1∉a->q∈N) (i:∀ f k,Eng.below α.length (T.θ f k)=true) (h:ah T a j v av):belows α.length av=true->ah T α N v av:=
 ah.ind (P:=λA l=>belows α.length l=true->ah T α N A l) (λd=>.nil) (λq d c b=>.cons (q.low p g i (aei.mp b).1) (c (aei.mp b).2)) (λe q d c b=>.yes e (q.low p g i (aei.mp b).1) (c (aei.mp b).2)) (λe d c b=>.no e (c (aei.mp b).2)) h
theorem SR.restore (R:SR c σ s α N) (f:SR c r H B l) (g:bh ⟨σ.loc,σ.aK,σ.st,σ.n,σ.n,σ.mark⟩ α N r B l) (t:σ.n<=r.lo):
  SR c σ H α l/\bh σ α N σ α l:=by
 have p:=g.ge.pre;have I:Ge α N α l:=⟨afJ _,g.ge.keep,λA h=>.inl h,g.ge.tab⟩
 refine ⟨⟨?_,R.aK,f.news,f.nodup,R.inj,λi o hi e=>?_,λa h=>f.all a (p.subset h),f.hi,R.wf,R.bD,R.len,R.low,R.bt,f.gens,f.os,f.aZ⟩,⟨I,aeD _,λA A=>rfl,aeD _,rfl,λi a o hi=>g.obs i a o (aet (aet hi R.low) t),λi hi=>⟨rfl,(g.bf i hi).2⟩⟩,rfl⟩
 ·refine Y f.fr λm F d=>?_
  refine Y R.fr λC T j=>?_
  refine (ay m F ?_);rw[show r.loc=σ.loc from g.loc]at d;have D:∀ {m C},el W c.scope σ.loc B l m->el W c.scope σ.loc α N C->el W c.scope σ.loc α l m:=λd j n v e=>by
   refine cj (d n v e) λx k val u w y=>?_
   refine cj (j n v e) λV X Z A A z=>?_
   exact (dy x k val u w (z.cut p y))
  unfold NR at d j ⊢;induction q:c.comp using aeB with
  |none=>rw[q]at d j;exact D d j
  |some pr=>
   rw[q]at d j;refine kN d ?_;clear d;intro e o L u w y;refine kN j ?_;clear j;intro A A X9 A A z;exact (nO e o L u w (D y z))
 ·refine aH (R.obj i o hi e) λabx lx q1 q2 M=>?_
  have bN:i<σ.n:=hi;have E:r.st.get i=some o:=(g.same i (aet hi t)).trans e;have G:i<r.n:=aet (aet hi t) f.low;refine aH (f.obj i o G E) ?_;clear f G E;intro a b P Q S;have dv:i<α.length:=by rw[R.len];exact hi
  exact (bB a b (jd p P dv) Q (M.cut p dv S))
noncomputable def fV (n:Nat) (v:O) (σ:LS):Rs:=jg (aN .no (below n v) (.ok v)) v λj=>aex (aD .no (σ.st.get j) λo=>gF .no o λl=>aN .no (belows n l) (.ok (.hl l))) (.ok v) (afu j n)
noncomputable def fW (n:Nat):Kv:=λv c=>aN .no (aeZ n c.lo) (fV n v c)
theorem EY (h:fV n v σ=y) (a:y≠.no):(below n v=true/\.ok v=y)\/∃ j l,v=.ref j/\afu j n=false/\σ.st.get j=some (.list l)/\belows n l=true/\.ok (.hl l)=y:=by
 by_cases A:y=aN .no (below n v) (.ok v)
 ·exact .inl (aS A.symm a)
 ·refine Y (i3 h A) ?_;clear h A;intro j W c;subst W;induction d:afu j n using aen with
  |true=>rw[d]at c;exact .inl ⟨d,c⟩
  |false=>
   rw[d]at c;refine Y (aR c a) λo b c=>?_
   refine Y (pL c a) ?_;clear c;intro l W c;subst W;refine ae (aS c a) λe c=>?_
   exact .inr (vA j l rfl d b e c)
noncomputable def LS.calm (σ:LS):LS:=LS.rec (motive:=λd=>LS) (λl c t n lo m=>⟨l,c,t,n,n,m⟩) σ
theorem SR.calm(R:SR c σ s α N):SR c σ.calm s α N:=⟨R.fr,R.aK,R.news,R.nodup,R.inj,R.obj,R.all,R.hi,R.wf,R.bD,R.len,aeD _,R.bt,R.gens,R.os,R.aZ⟩
theorem si (y:ak c) (R:SR c σ s α N) (z:SR c B V m a) (g:bh σ.calm α N B m a) (i:VR W.kt m a val v) (h:fV σ.n v B=.ok H):VR W.kt α a val H:=by
 have p:=g.ge.pre;have I:∀ {w val},VR W.kt m a val w->below σ.n w=true->VR W.kt α a val w:=λi d=>i.low p (λq o L=>o) (λf k=>y.g.Bo f k _) (by rw[R.len];exact d)
 rcases EY h nofun with ⟨d,e⟩|⟨j,l,rfl,M,C,d,e⟩
 ·cases e;exact I i d
 ·cases e;refine Y i.inv ?_;clear i;intro x u D;subst u;refine Y (z.of C D) ?_;clear C;intro b P E;refine be E.inv ?_;clear E;intro X n u r;subst u;refine .hl P (λF=>?_) (r.low p (λq o L=>o) (λf k=>y.g.Bo f k _) (R.len▸d))
  refine eZ (List.mem_iff_getElem.mp F) ?_;clear F;intro G A Q;refine aL p ?_;clear p;intro t S;have T:m[G]?=α[G]?:=by rw[←S];exact ahW A
  obtain rfl:=hH z (T.trans (ae4.mpr ⟨A,Q⟩)) D;rw[R.len]at A
  cases M.symm.trans (ahx A)
theorem QV(z:fV n v σ=.exc C):False:=by
 rcases EY z nofun with⟨_,e⟩|⟨_,_,_,_,_,_,e⟩<;>contradiction
noncomputable def xq (r:Rs)(σ:LS)(k:Kv):Rs:=Rs.casesOn r (λv=>k v σ) .exc .no
noncomputable def Ho (e:Ev):Ev:=λc k=>xq (e c.calm (fW c.n)) c k
theorem pure_run (p:ak c) (h:Ho e σ k=y) (j:y≠.no) (R:SR c σ s α N){E:ael->aep->Prop}{Q:ael->aep->Prop}(r:fZ c y σ α N k Q):
  ∃ b,e σ.calm (fW σ.n)=b/\b≠.no/\((bS c y σ α N E->bS c b σ.calm α N E)/\(jo c y σ α N E->jo c b σ.calm α N E))/\fZ c b σ.calm α N (fW σ.n) Q:=by
 have h:xq (e σ.calm (fW σ.n)) σ k=y:=h;refine (nU _ rfl (λq=>j (q▸h).symm) ⟨λm C n d A f W q g x=>m C n d A f W (q▸h).symm ⟨g.ge,g.mark,g.bf⟩ x,λm C n d A f W q g l x=>m C n d A f W (q▸h).symm ⟨g.ge,g.mark,g.bf⟩ l x⟩ (λa d v A f W q o g t=>?_))
 rw[←q]at h;have h:xq (aN .no (aeZ σ.n d.lo) (fV σ.n a d)) σ k=y:=h;induction i:aeZ σ.n d.lo using aen with
 |false=>rw[i]at h;exact absurd h.symm j
 |true=>
  rw[i]at h;have h:xq (fV σ.n a d) σ k=y:=h
  cases z:fV σ.n a d with
  |no=>rw[z]at h;exact absurd h.symm j
  |exc C=>exact (QV z).elim
  |ok u=>
   rw[z]at h;refine ae (R.restore o g (aer i)) ?_;clear i;intro w B;exact r u σ v A α W h w B (si p R o g t z)
noncomputable def bc (call:Call):Call:=λf c=>Ho (call f c)
theorem EZ (a:ak c){call:Call}(h:jb c A call):jb c A (bc call):=by
 intro f b u k y q d s v N e R g i j l m n Q W;refine j1 (pure_run a q d R (E:=e) W) ?_;clear a q d W;intro w o p r t;exact h f b _ _ _ o p _ _ _ _ R.calm (r.2 g) i j l m n _ t
theorem QW {E:ael->aep->Prop}{Q:Unit->aep->Prop}(x:B.StaysIn s.heap) (y:s.heap.FunFrames B l) (k:s.heap.TracedAtW B e cls a0 fl) (h:∀ h',B.StaysIn h'->h'.FunFrames B l->h'.TracedAtW B e cls a0 (aff L)->s.heap.UpToSlots h'->Q () {s with heap:=h'}):aeO M A (setFlight (.ref e) (some L)) Q E s:=by
 refine DQ k ?_;clear k;intro z g T F m n C p r t u i W D;have v:3<m.size:=(agw.mp D).1;have a:∀ b,b≠T->(s.heap.update T (ahQ (·.setIfInBounds 3 ((some L).elim agl λf=>aff f)))).get? b=s.heap.get? b:=λb c=>Heap.get?_update_other _ _ (Ne.symm c)
 have w:∀ b o,s.heap.get? b=some o->(∀ g,o.data≠.fields g)->b≠T:=λb o c d q=>by rw[q,i]at c;have G:=aej c;clear c;subst o;exact d m W
 unfold setFlight;refine aek (afc n p r ?_);rw[if_pos (show (afr T !=agl)=true from by simp)]
 refine ahc i W v (h _ (λb o j=>(a b λq=>by rw[q,t]at j;exact aT j).trans (x b o j)) (y.of_keeps λb o c d=>(ay o ((a b (w b o c d)).trans c) rfl)) ?_ λb o c d=>⟨o.slots,(a b (w b o c d)).trans c⟩)
 exact (Pg z g T _ _ ((a e (Ne.symm u)).trans n) C p r t u (agd _ i (ahB (agi W _))) (agi W _) (by simp[v]))
theorem E1 (I:ak c) (z:A.frames=some (c.bF::c.outer)) (x:XR c C e σ s α N) {Q:Unit->aep->Prop} {E:ael->aep->Prop}
  (k:∀ h' a B a0,e=.ref a->h'.TracedAtW B a (.ref C) a0 (aff c.L)->XR c C e σ {s with heap:=h'} α N->Q () {s with heap:=h'}):WP W A (noteFrame e c.bF) Q E s:=by
 obtain ⟨h,i,a,B,G,m,rfl,j,l,n,o,p,q,r,b,u,L⟩:=x;have g:=I.frame;rcases L with ⟨R,S,a0,D,M,F,P,H⟩|⟨a0,T,t,rfl|rfl⟩
 ·unfold noteFrame;simp only[g];refine aek (afc D F H ?_);rw[if_neg (by decide)]
  refine wpAny_entryW z u g D r b F (agw.mp H).1 P λh' f=>?_
  refine j5 f ?_;clear f;intro v w d y;rw[M]at d;exact k h' a B a0 rfl d ⟨h,i,a,B,G,m,rfl,j,l,n,o,p,q.trans y,v,b,w,.inr (gJ a0 _ d (.inr rfl))⟩
 ·refine wpAny_noteFrame_onW z u g t r b λh' f=>?_
  refine j5 f ?_;clear f;intro v w d y;exact k h' a B a0 rfl d ⟨h,i,a,B,G,m,rfl,j,l,n,o,p,q.trans y,v,b,w,.inr (gJ a0 _ d (.inr rfl))⟩
 ·exact wpAny_noteFrame_againW g t (k s.heap a B a0 rfl t ⟨h,i,a,B,G,m,rfl,j,l,n,o,p,q,r,b,u,.inr (gJ a0 _ t (.inr rfl))⟩)
theorem Sv (b:ak c) (r:c.comp=none) (u:A.frames=some (c.bF::c.outer)) (x:XR c C e σ s α N) {E:ael->aep->Prop}(k:∀ g,XR c C e σ g α N->E e g): aix (aeR W.prog W.w) A c.env (agS (aeR W.prog W.w) A c.env E) e s:=by
 rw[b.uz r];refine E1 b u x λh a B' d f t x=>?_
 subst f;obtain ⟨v,w,a',B,G,m,f,y,z,D,F,H,I,L,M,P,Q⟩:=x
 cases f
 unfold agS;refine DQ (id t) λR S T oT ts i tQ j l hnT hTe hT hdT h3'=>?_
 refine aek (afc i j l ?_);rw[if_neg (show ¬ ((afr T ==agl)=true) from by simp)]
 rw[b.frame];have go:∀ {d n},Heap.TracedAtW h B a (.ref C) d n->WP W A (setFlight (.ref a) (some c.L)) (λu_ V=>E (.ref a) V) E {s with heap:=h}:=λt=> QW L P t λNm X Z k4 k5=>k _ ⟨v,w,a,B,G,m,rfl,y,z,D,F,H,I.trans k5,X,M,Z,.inr (gJ _ _ k4 (.inr rfl))⟩
 rcases Q with ⟨R,S,d,o,e2,p,e4,q⟩|⟨d,n,t',_⟩
 ·rw[i]at o;cases o;rw[j]at p;cases p;rw[l]at q;cases q
 ·exact go t'
theorem bS.loop (a:ak c) (b:c.comp=none) (f:aP c d A) (h:bS c y σ α N E):bS c y σ α N (aix (aeR W.prog W.w) A c.env (agS (aeR W.prog W.w) A c.env E)):=
 λC e i o j k q g x=>Sv a b f.frames x λm n=>h C e i m j k q g n
theorem pW{N own M:Led}:((N++(own++M)).map (·.1)).Perm ((own++(N++M)).map (·.1)):=by
 apply List.Perm.map;rw[←afP,←afP];exact List.Perm.append_right _ List.perm_append_comm
theorem NR.Hp (h:NR c loc α N m) (own:Led):NR (c.with (own++c.ax)) loc α N m:=h.more λp d=>aeu _ d
theorem Qa{h:afm}{b:aez}(e:h.objs.size<=b):h.get? b=none:=by
 induction q:h.get? b using aeB with
 |none=>rfl
 |some o=>exact absurd (aeS q) (aft.mpr e)
theorem SR.own {σ:LS} {s:aep} (R:SR c σ s α N) (i:ak c) {own:Led} {h':afm} {t:Nat} (f:∀ b o,s.heap.get? b=some o->h'.get? b=some o)
  (g:∀ p∈own,h'.get? p.1=some p.2/\s.heap.objs.size<=p.1) (r:(own.map (·.1)).Nodup):SR (c.with (own++c.ax)) σ {s with heap:=h',toks:=t} α N:=by
 refine Y R.fr λm F u=>?_
 have j:Fr c.h₀ c.L h' m:=⟨F.ns.keeps f,λb o e=>f _ _ (F.keep b o e),F.above⟩
 refine⟨(ay m j (u.Hp own)),R.aK,λp d=>?_,?_,R.inj,R.obj,R.all,λp d=>?_,R.wf,R.bD,R.len,R.low,R.bt,R.gens,R.os,i.aZ.keeps j.keep⟩
 ·rcases aeQ.mp d with d|d
  ·have:=R.news p (aeo _ d);exact⟨f _ _ this.1,this.2⟩
  ·rcases aeQ.mp d with d|d
   ·refine ae (g p d) λA W=>?_
    exact (bH A (λe=>absurd F.ns.lt (aft.mpr (e▸W))) (kts_none F.keep (Qa W)))
   ·have:=R.news p (aeu _ d);exact⟨f _ _ this.1,this.2⟩
 ·refine pW.nodup_iff.mpr ?_;rw[aeX];refine ae7.mpr (bH r R.nodup (λa k b l e=>?_))
  refine Y (aeP.mp k) ?_;clear k;intro p d h;subst h;refine Y (aeP.mp l) ?_;clear l;intro q v h;subst h;have A:=aeS (R.news q v).1;exact absurd A (aft.mpr (e▸(g p d).2))
 ·rcases aeQ.mp d with d|d
  ·exact R.hi p (aeo _ d)
  ·rcases aeQ.mp d with d|d
   ·refine beq_eq_false_iff_ne.mpr λe=>?_
    have A:=ai4 i.lim;have W:=F.above;have w:=F.ns.lt;have n:=(g p d).2;rw[e]at n;exact absurd (aet A W) (aft.mpr (agV (aet w n)))
   ·exact R.hi p (aeu _ d)
theorem SR.drop{own:Led}(i:ak c) (R:SR (c.with (own++c.ax)) σ s α N):SR c σ s α N:=by
 have sub:∀ p∈N++c.ax,p∈N++(own++c.ax):=λp d=>by
  rcases aeQ.mp d with d|d
  ·exact aeo _ d
  ·exact aeu _ (aeu _ d)
 refine Y R.fr λm F j=>?_
 have g:=pW.nodup_iff.mp R.nodup;rw[aeX]at g;refine bU (ae7.mp g) ?_;clear g;intro r k l;refine⟨(ay m F ?_),R.aK,λp d=>R.news p (sub p d),k,R.inj,R.obj,R.all,λp d=>R.hi p (sub p d),R.wf,R.bD,R.len,R.low,R.bt,R.gens,R.os,R.aZ⟩
 have A:match c.comp with
  |none=>el W c.scope σ.loc α N m
  |some (C,h)=>m=h/\∃ a b,(C,a)∈own++c.ax/\ahn a b/\el W c.scope σ.loc α N b:=j
 unfold NR;induction q:c.comp using aeB with
 |none=>rw[q]at A;exact A
 |some p=>
  obtain⟨C,h⟩:=p;rw[q]at A;refine Gk A ?_;clear A;intro e a b h1 n;refine aL (i.cin C h q) ?_;clear i q;intro t o;refine (Ak e a b ?_ n);rcases aeQ.mp h1 with h1|h1
  ·exact absurd rfl (l C (aeF (f:=λp:aez×Obj=>p.1) h1) C (aeF (f:=λp:aez×Obj=>p.1) (aeu N o)))
  ·exact h1
theorem SR.ji {σ:LS} {s:aep} {own own':Led} (h:ak c) (R:SR (c.with (own++c.ax)) σ s α N) {h':afm} {t:Nat} (e:own'.map (·.1)=own.map (·.1)) (a:∀ b o,b∉own.map (·.1)->s.heap.get? b=some o->h'.get? b=some o)
  (l:∀ p∈own',h'.get? p.1=some p.2):SR (c.with (own'++c.ax)) σ {s with heap:=h',toks:=t} α N:=by
 refine Y (R.drop h |>.fr) λm F n=>?_
 refine Y R.fr λw x y=>?_
 have i:=pW.nodup_iff.mp R.nodup;have f:=i;rw[aeX]at f;refine bU (ae7.mp f) ?_;clear f;intro B C r;have W:∀ p∈own,p∈N++(own++c.ax):=λp d=>aeu _ (aeo _ d)
 have u:∀ p∈N++c.ax,p.1∉own.map (·.1):=λp d q=>r _ q p.1 (aeF d) rfl
 have v:c.L∉own.map (·.1):=λq=>by
  refine Y (aeP.mp q) λp d e=>?_
  exact (R.news p (W p d)).2.1 e
 have j:Fr c.h₀ c.L h' m:=⟨F.ns.at' λo q=>a _ o v q,λb o q=>a b o (λz=>by
  refine Y (aeP.mp z) ?_;clear z;intro p d e;have:c.h₀.get? p.1=none:=(R.news p (W p d)).2.2;rw[e,q]at this;exact nk this) (F.keep b o q),F.above⟩
 have sub:∀ p∈N++c.ax,p∈N++(own++c.ax):=λp d=>by
  rcases aeQ.mp d with d|d
  ·exact aeo _ d
  ·exact aeu _ (aeu _ d)
 have g:∀ p∈own',∃ q∈own,q.1=p.1:=λp d=>by
  have:p.1∈own'.map (·.1):=aeF d;rw[e]at this;refine Y (aeP.mp this) λq A e=>?_
  exact (ay q A e)
 refine⟨(ay m j (n.Hp own')),R.aK,λp d=>?_,?_,R.inj,R.obj,R.all,λp d=>?_,R.wf,R.bD,R.len,R.low,R.bt,R.gens,R.os,h.aZ.keeps j.keep⟩
 ·have k:∀ p∈N++c.ax,h'.get? p.1=some p.2/\p.1≠c.L/\c.h₀.get? p.1=none:=λp d=>by
   have:=R.news p (sub p d);exact⟨a _ _ (u p d) this.1,this.2⟩
  rcases aeQ.mp d with d|d
  ·exact k p (aeo _ d)
  ·rcases aeQ.mp d with d|d
   ·refine Y (g p d) λq A e=>?_
    have:=R.news q (W q A);exact (bH (l p d) (e▸this.2.1) (e▸this.2.2))
   ·exact k p (aeu _ d)
 ·refine pW.nodup_iff.mpr ?_;rw[aeX,e,←aeX];exact i
 ·rcases aeQ.mp d with d|d
  ·exact R.hi p (aeo _ d)
  ·rcases aeQ.mp d with d|d
   ·refine Y (g p d) ?_;clear g;intro q A e;exact e▸R.hi q (W q A)
   ·exact R.hi p (aeu _ (aeu _ d))
noncomputable def dH(c:Cx W)(σ:LS)(α:List aez)(N:Led)(b:aez)(o:Obj):Prop:=c.h₀.get? b=some o\/((b,o)∈N/\(b∉α\/∃ i∈σ.mark,α[i]?=some b))
theorem dH.at (h:dH c σ α N b o) (g:Sts σ α N a e f) (R:SR (c.with M) a j e f):j.heap.get? b=some o:=by
 rcases h with h|⟨h,d|⟨i,A,d⟩⟩
 ·refine Y R.fr λm F W=>?_
  exact F.keep _ _ h
 ·exact R.get (g.ge.keep _ h d)
 ·exact R.get ((g.bf i A).2 _ _ d h)
noncomputable def ey (e:Tg) (b:Sc) (l:List O):LS->(LS->Rs)->Kv->Rs:=aeL (motive:=λd=>LS->(LS->Rs)->Kv->Rs) (λc kn d=>kn c) (λa d W c kn A=>e a c (λc=>b c (λc=>W c kn A) A)) l
theorem QX:ey e b (a::l) σ kn kr=e a σ (λσ=>b σ (λσ=>ey e b l σ kn kr) kr):=rfl
theorem sj (D:ak c) (hn:c.comp=none) (hA:aP c d A) {target:aeM} {body:List afD} {P Md:Nat->ael->afm->Prop} {St:Nat->afm->Prop}
  (KT:KTurns W.prog W.w A target qd fp wr l.length P Md St) (ij:∀ M,(∀ p∈c.ax,p∈M)->cA (c.with M) A body cb)
  {α N} (R:SR (c.with (own++c.ax)) σ s α N) (er:St 0 s.heap) (fq:∀ b∈wr,b∈own.map (·.1)) (mD:∀ i h,St i h->∀ b∈own.map (·.1),∃ o,h.get? b=some o)
  (ik:∀ b∈fp,b∈own.map (·.1)\/∃ o,dH c σ α N b o)
  (aby:∀ M,(∀ p∈c.ax,p∈M)->∀ i v a u n B x,l[i]?=some a->P i v n.heap->SR (c.with M) u n B x->Sts σ α N u B x->∀ k y,tg a u k=y->y≠.no->∀ E,bS (c.with M) y u B x E->∀ Q,kq (c.with M) y u B x k Q->WP W A (aio target c.env v) Q E n)
  {kn:LS->Rs} {kr:Kv} {y:Rs} (h:ey tg cb l σ kn kr=y) (hy:y≠.no) {E:ael->aep->Prop} (hE:bS c y σ α N E) {Q:Flow->aep->Prop} (cX:gs c y σ α N kn Q) (cY:gu c y σ α N kr Q):
  agk (aeR W.prog W.w) A (.forLoop target (.ref qd) body [] c.env) (λr n=>match r with|.ok f=>Q f n|.error qe=>agS (aeR W.prog W.w) A c.env E qe n) s:=by
 refine codeAny_forLoop_any (λk n=>∃ i T u B x,T.map (·.1)=own.map (·.1)/\SR (c.with (T++c.ax)) u n B x/\Sts σ α N u B x/\St i n.heap/\i<=l.length/\k=l.length+1-i/\ey tg cb (l.drop i) u kn kr=y) ?_ (l.length+1)
  (Pq 0 own σ α N rfl R .refl er (afj _) rfl (by rw [ai0];exact h))
 rintro k n⟨i,T,u,B,x,V,X,g,mW,hi,rfl,h⟩
 have ku:∀ M:Led,∀ p∈c.ax,p∈M++c.ax:=λM p e=>aeu _ e
 by_cases F:i<l.length
 ·obtain⟨a,ha⟩:∃ a,l[i]?=some a:=⟨l[i],aeW F⟩
  rw [ahX F,show l[i]=a from aej ((aeW F).symm.trans ha),QX] at h
  refine KT.item i _ _ _ F mW λv h₁ tk₁ uI G=>?_
  refine KT.go i v _ _ _ uI λZ hP ml th=>?_
  have hk:∀ b o,b∉T.map (·.1)->n.heap.get? b=some o->Z.get? b=some o:=λb o j q=>by
   rw [V] at j
   exact th b o (λz=>j (fq b z)) (G b o (λz=>j (fq b z)) q)
  have ex:∀ H:List aez,(∀ b∈H,∃ o,Z.get? b=some o)->∃ w:Led,w.map (·.1)=H/\∀ p∈w,Z.get? p.1=some p.2:=λH=>by
   induction H with
   |nil=>exact λu_=>⟨[],rfl,λp e=>(nomatch e)⟩
   |cons b H ih=>
    intro q
    refine Y (ih λb j=>q b (.tail _ j)) ?_;clear ih;intro w C I
    refine aL (q b (.head _)) λo ho=>?_
    refine (ay ((b,o)::w) (by rw [aeU,C]) (λp e=>?_))
    rcases aeA.mp e with rfl|e
    ·exact ho
    ·exact I p e
  refine Y (ex (own.map (·.1)) (mD _ _ ml)) ?_;clear ex mD;intro w C I
  have cw:=X.ji D (t:=tk₁) (C.trans V.symm) hk I
  have Np:=(((hE.step g.kp).loop D hn hA).with hn (ku w))
  refine aby _ (ku w) i v a _ _ _ _ ha hP cw g _ y h hy _ Np _ λk9 dW jk fY h bW dN=>?_
  refine ij _ (ku w) _ _ _ y h hy _ _ _ _ bW (Np.step dN.kp) _ (λHq rg Hs By h L eR=>?_) λa' Hq v' rg Hs By h L eR hv=>?_
  ·have qb:=(g.trans dN).trans eR
   refine (Pf (l.length+1-(i+1)) (by omega) (i+1) w Hq Hs By C L qb ?_ F rfl h)
   refine KT.frame _ _ _ ml λb j o q=>?_
   rcases ik b j with j|⟨o',j⟩
   ·rw [←C] at j
    refine Y (aeP.mp j) ?_;intro p e S;subst S
    have q':=I p e
    rw [q] at q'
    have S:=aej q';clear q';subst o
    exact (L.news p (aeu _ (aeo _ e))).1
   ·have q1:=j.at g cw
    have q2:Z.get? b=some o':=q1
    rw [q] at q2
    have S:=aej q2;clear q2;subst o'
    exact j.at qb L
  ·exact cY _ _ _ _ _ _ h (L.drop D) ((g.trans dN).trans eR) hv
 ·have nB:i=l.length:=by omega
  subst nB
  rw [ahJ] at h
  refine KT.done _ _ _ mW λh₁ tk₁ G=>ahq ?_
  obtain⟨w,C,I⟩:∃ w:Led,True/\True:=(ay [] trivial trivial)
  have dq:SR c u {n with heap:=h₁,toks:=tk₁} B x:=by
   have off:∀ p∈x++c.ax,p.1∉wr:=λp e z=>by
    have nd:=pW.nodup_iff.mp X.nodup
    rw [aeX] at nd
    have:=fq _ z
    rw [←V] at this
    exact (ae7.mp nd).2.2 _ this p.1 (aeF e) rfl
   have m:=X.drop D
   refine Y m.fr λqc qa hm=>?_
   have nw:∀ b∈wr,b≠c.L/\c.h₀.get? b=none:=λb j=>by
    have:=fq _ j
    rw [←V] at this
    refine Y (aeP.mp this) ?_;clear this j;intro p e S;subst S
    exact (X.news p (aeu _ (aeo _ e))).2
   have F':Fr c.h₀ c.L h₁ qc:=⟨qa.ns.at' λo q=>G _ o (λz=>(nw _ z).1 rfl) q,λb o q=>G b o (λz=>by rw [(nw _ z).2] at q;exact aT q) (qa.keep b o q),qa.above⟩
   exact⟨(ay qc F' hm),m.aK,λp e=>⟨G _ _ (off p e) (m.news p e).1,(m.news p e).2⟩,m.nodup,m.inj,m.obj,m.all,m.hi,m.wf,m.bD,m.len,m.low,m.bt,m.gens,m.os,D.aZ.keeps F'.keep⟩
  exact cX _ _ _ _ h dq g
noncomputable def LS.bf (σ:LS) (i:Nat):LS:=LS.rec (motive:=λd=>LS) (λl c t n lo m=>⟨l,c,t,n,lo,i::m⟩) σ
noncomputable def LS.fL (a σ:LS):LS:=LS.rec (motive:=λd=>LS) (λl c t n lo d=>⟨l,c,t,n,lo,σ.mark⟩) a
theorem SR.marked(R:SR c σ s α N)(h:∀ i∈m,i<σ.n):SR c ⟨σ.loc,σ.aK,σ.st,σ.n,σ.lo,m⟩ s α N:=⟨R.fr,R.aK,R.news,R.nodup,R.inj,R.obj,R.all,R.hi,R.wf,R.bD,R.len,R.low,h,R.gens,R.os,R.aZ⟩
theorem SR.bf (R:SR c σ s α N) (h:i<σ.n):SR c (σ.bf i) s α N:=R.marked λj d=>(aeA.mp d).elim (λe=>e▸h) (R.bt j)
theorem SR.fL (R:SR c a s b e) (f:∀ i∈σ.mark,i<σ.n) (g:Sts (σ.bf i) α N a b e):SR c (a.fL σ) s b e:=R.marked λj d=>aet (f j d) g.n
theorem Sts.fL (g:Sts (σ.bf i) α N a b e):Sts σ α N (a.fL σ) b e:=⟨g.ge,g.lo,g.same,g.n,rfl,g.obs,λj c=>g.bf j (.tail _ c)⟩
theorem bS.bf (h:bS c y σ α N E) (i:Nat):bS c y (σ.bf i) α N E:=λC e d A W a q g x=>h C e (d.fL σ) A W a q ⟨g.ge,rfl,λj b=>g.bf j (.tail _ b)⟩ (x.same rfl)
noncomputable def ou (a:List (Str×O)):List O:=aeL [] (λe d c=>.str e.1::c) a
noncomputable def keysOk (a:List (Str×O)):Bool:=aeL true (λe d c=>and (afp e.1) c) a
noncomputable def xr (i:Nat) (f:LS->(LS->Rs)->Kv->Rs):LS->(LS->Rs)->Kv->Rs:=λc kn A=>f (c.bf i) (λd=>kn (d.fL c)) (λv d=>A v (d.fL c))
noncomputable def du (a:Tg) (e:Ev) (b:Sc):Sc:=λc kn d=>e c λv c=>cF (lq (d0 .no c.st v λi o=>gF (ix .no o λA=>aN .no (keysOk A) (xr i (ey a b (ou A)) c kn d)) o λl=>aN .no (ae1 l) (xr i (ey a b l) c kn d))
 v λl=>aN .no (ae1 l) (ey a b l c kn d)) v λl=>aN .no (ae1 l) (ey a b l c kn d)
noncomputable def hJ(e:aeM):Bool:=match e with
 |.Set ..=>false
 |_=>true
theorem pU(h:hJ e=true)(env:Env)(x:ael):foldedSetIterable e env x=pure x:=by
 induction e using afK<;>first|rfl|exact aX h
theorem vR (P:ak c) (hn:c.comp=none) (H:aP c d A) (rD:∀ M,(∀ p∈c.ax,p∈M)->kc (c.with M) A target tg) (ij:∀ M,(∀ p∈c.ax,p∈M)->cA (c.with M) A body cb)
  (R:SR c σ s α N) (er:dH c σ α N b o) (B:o.cls=.type "tuple" \/o.cls=.type "list") (hd:o.data=.seq vs.toArray n) (S:ah W.kt α N vs l) (C:ae1 l=true)
  {kn:LS->Rs} (h:ey tg cb l σ kn kr=y) (I:y≠.no) {E:ael->aep->Prop} (L:bS c y σ α N E) {Q:Flow->aep->Prop} (cX:gs c y σ α N kn Q) (cY:gu c y σ α N kr Q):
  WP W A (aiC (.ref b)) (λit eb=>agk (aeR W.prog W.w) A (.forLoop target it body [] c.env) (λr j=>match r with|.ok f=>Q f j|.error e=>agS (aeR W.prog W.w) A c.env E e j) eb) E s:=by
 have g:=er.at (M:=c.ax) .refl R
 have bN:=aeS g
 have eT:b≠s.heap.objs.size:=aeN bN
 have hlen:=S.len C
 have own:∀ {T:Obj},T.isFreed=false->SR (c.with ([(s.heap.objs.size,T)]++c.ax)) σ {s with heap:=s.heap.push T} α N:=λhf=>R.own P (t:=s.toks) (λb o q=>aeq _ q) (λp C=>by
  rw [aev.mp C]
  exact ⟨aeJ _ hf,aeD _⟩) (by simp)
 have Nq:∀ M:Led,(∀ p∈c.ax,p∈M)->∀ (i:Nat) v a m j u z,l[i]?=some a->vs.toArray[i]?=some v->SR (c.with M) m j u z->Sts σ α N m u z->∀ k y,tg a m k=y->y≠.no->∀ E,bS (c.with M) y m u z E->∀ Q,kq (c.with M) y m u z k Q->WP W A (aio target c.env v) Q E j:=by
  intro M D i v a m j u z F hv R' qa k y h I E L Q hQ
  refine Y (S.at C i a F) ?_;clear S C;intro v' V q2
  have gW:vs[i]?=some v:=by simpa using hv
  rw [gW] at V;have bj:=aej V;clear V;subst v'
  exact rD M D _ _ _ _ h I _ _ _ _ _ R' L (q2.mono qa.ge) Q hQ
 have ik:∀ x∈[s.heap.objs.size,b],x∈[s.heap.objs.size]\/∃ o,dH c σ α N x o:=λx X=>by
  rcases aeA.mp X with rfl|X
  ·exact .inl (by simp)
  ·rw [aev.mp X];exact .inr ⟨o,er⟩
 rcases B with B|B
 ·have G:s.heap.IsTuple b vs.toArray:=(fC o g B n hd)
  refine agj G ?_
  have KT:=agz (target:=target) (Walks.tuple (prog:=W.prog) (w:=W.w) H.handled s.heap.objs.size b eT vs.toArray) λi v s Q E st q=>letGo_tupleiter st.1 q
  rw [show vs.toArray.size=l.length by simpa using hlen] at KT
  refine sj P hn H KT ij (own rfl) ⟨(dJ _ (aeJ _ rfl) rfl rfl),G.at λo e=>aeq _ e⟩ (λb g=>by simpa using g) (λi h st b g=>?_) (by simpa using ik) (λM D i v a m j u z F Z=>Nq M D i v a m j u z F Z) h I L cX cY
  have ig:b=s.heap.objs.size:=by simpa using g
  subst ig
  refine Y st.1 λo ho u_=>?_
  exact ⟨o,ho⟩
 ·have G:s.heap.IsList b vs.toArray:=(fC o g B n hd)
  refine ajk G ?_
  have KT:=agz (target:=target) (Walks.list (prog:=W.prog) (w:=W.w) H.handled s.heap.objs.size b eT vs.toArray) λi v s Q E st q=>letGo_listiter st.1 q
  rw [show vs.toArray.size=l.length by simpa using hlen] at KT
  refine sj P hn H KT ij (own rfl) ⟨(dJ _ (aeJ _ rfl) rfl rfl),G.at λo e=>aeq _ e⟩ (λb g=>by simpa using g) (λi h st b g=>?_) (by simpa using ik) (λM D i v a m j u z F Z=>Nq M D i v a m j u z F Z) h I L cX cY
  have ig:b=s.heap.objs.size:=by simpa using g
  subst ig
  refine Y st.1 ?_;clear st;intro o ho u_
  exact ⟨o,ho⟩
theorem UE (h:aU T α N kvs a):keysOk a=true->kvs.length=(ou a).length/\∀ (i:Nat) (k:Str) (x:ael),kvs[i]?=some (k,x)->(ou a)[i]?=some (.str k)/\afp k=true:=by
 induction h with
 |nil=>exact λf=>⟨rfl,λi k x h=>nomatch h⟩
 |cons g j c=>
  intro e;refine ae (aei.mp e) ?_;clear e;intro A d;refine ae (c d) ?_;clear c d;intro W b;refine⟨congrArg (·+1) W,λi k x h=>?_⟩
  induction i using aeI with
  |zero=>cases aej h;exact⟨rfl,A⟩
  |succ i=>exact b i k x h
theorem QY{E:ael->aep->Prop}{Q:Unit->aep->Prop}(a:s.heap.IsKeyIter I d i n ep) (h:Q () s):
    WP W A (agY target (.ref I) v) Q E s:=by
  refine cK a ?_;clear a;intro o c b e;unfold agY;induction target using afK<;>first
    | exact aey h
    | (induction v using afo<;>first
        | exact aey h
        | (refine aek (ajp c ?_)
           rw[b,e];exact aey h))
theorem Sw (n:ak c) (V:c.comp=none) (u:aP c d A) (X:∀ M,(∀ p∈c.ax,p∈M)->kc (c.with M) A target Z) (ij:∀ M,(∀ p∈c.ax,p∈M)->cA (c.with M) A body cb)
  (R:SR c σ s α N) (v:dH c σ α N b o) (hm:(b ==af1)=false) (z:o.IsDictOf (afb W.prog W.w) kvs) (B:aU W.kt α N kvs C) (D:keysOk C=true)
  {kn:LS->Rs}(h:ey Z cb (ou C) σ kn kr=y) (j:y≠.no){E:ael->aep->Prop}(k:bS c y σ α N E){Q:Flow->aep->Prop}(cX:gs c y σ α N kn Q) (cY:gu c y σ α N kr Q):
  WP W A (aiC (.ref b)) (λit eb=>agk (aeR W.prog W.w) A (.forLoop target it body [] c.env) (λr l=>match r with|.ok f=>Q f l|.error e=>agS (aeR W.prog W.w) A c.env E e l) eb) E s:=by
 have a:=v.at (M:=c.ax) .refl R
 have bN:=aeS a
 have eT:b≠s.heap.objs.size:=aeN bN
 refine ae (UE B D) ?_;clear B D;intro F G
 refine kJ z ?_;clear z;intro CG H g uJ tj sO iV
 have I:s.heap.DictAt (afb W.prog W.w) b kvs H:=(vt o CG a g uJ tj sO iV)
 refine wpAny_pyIter_dict hm I ?_
 have KT:=agz (target:=target) (Walks.dictKeys (prog:=W.prog) (w:=W.w) (knd:=afb W.prog W.w) u.handled s.heap.objs.size b eT kvs H) λi qa s Q E st q=>QY (W:=W) st.1 q
 rw [F] at KT
 refine sj n V u KT ij (own:=[(s.heap.objs.size,_)]) (R.own n (t:=s.toks) (λb o q=>aeq _ q) (λp hp=>by
  rw [aev.mp hp]
  exact ⟨aeJ _ rfl,aeD _⟩) (by simp)) ⟨(dJ _ (aeJ _ rfl) rfl (by show Data.fields _=_;rw [F];rfl)),I.at' λo e=>aeq _ e⟩ (λb a=>by simpa using a) (λi h st b a=>?_) (λx g=>?_) (λM hM i qa qb bu l bG N' ha L R' qc qd y h j E k Q hQ=>?_) h j k cX cY
 ·have ig:b=s.heap.objs.size:=by simpa using a
  subst ig
  refine Y st.1 ?_;clear st;intro o ho u_
  exact ⟨o,ho⟩
 ·rcases aeA.mp g with rfl|g
  ·exact .inl (by simp)
  ·rw [aev.mp g];exact .inr ⟨o,v⟩
 ·refine be L ?_;clear L;intro k' x P S
  refine aL (Value.isStrOf_shape S) ?_;clear S;intro t T;subst T
  refine ae (G i k' x P) ?_;clear G P;intro m q4
  rw [ha] at m;have T:=aej m;clear m;subst qb
  exact X M hM _ _ _ _ h j _ _ _ _ _ R' k (.str t q4) Q hQ
theorem gs.bf{kn:LS->Rs}(R:SR c σ s α N) (h:gs c y σ α N kn Q) (i:Nat):gs c y (σ.bf i) α N (λa=>kn (a.fL σ)) Q:=
 λa A W b q d g=>h _ _ _ _ q (d.fL R.bt g) g.fL
theorem gu.bf (R:SR c σ s α N) (h:gu c y σ α N kr Q) (i:Nat):gu c y (σ.bf i) α N (λv a=>kr v (a.fL σ)) Q:=
 λv a val W b e q d g A=>h _ _ _ _ _ _ q (d.fL R.bt g) g.fL A
theorem UG (e:ak c) (g:c.comp=none) (j:aP c d A) (I:hJ G=true) (L:aE c A G P) (k:∀ M,(∀ p∈c.ax,p∈M)->kc (c.with M) A target Q) (m:∀ M,(∀ p∈c.ax,p∈M)->cA (c.with M) A body S):
  bQ c A (.For target G body [] pos) (du Q P S):=by
 intro T kn kr y h W s V N E R H qc X Z;refine wpAny_For ?_ (pU I c.env);refine L T _ y h W s V N E R H _ λqd dk val dn cL bZ h a w x=>?_
 have q:=H.step w.kp;have t:=X.step w.toSts;have u:=Z.step w.toSts;rcases l9 h with h|⟨l,rfl,h⟩
 ·rcases vL h with h|⟨l,rfl,h⟩
  ·refine Y (i3 h W) ?_;clear h;intro i b h;subst b;refine Y (aR h W) λo hg h=>?_
   refine Y x.inv ?_;intro qa b v;subst b;refine Y (a.of hg v) λqe z B=>?_
   rcases P8 h with h|⟨l,rfl,h⟩
   ·refine Y (l7 h W) ?_;clear h;intro es b h;subst b;refine ae (aS h W) λhko h=>?_
    refine Y B.inv λkvs hd r=>?_
    exact Sw e g j k m (a.bf (a.lt v)) (.inr ⟨z,.inr (ay i (.head _) v)⟩) (a.hi _ (aeo _ z)) hd r hko h W (q.bf i) (t.bf a i) (u.bf a i)
   ·refine ae (aS h W) λf h=>?_
    refine be B.inv ?_;clear B;intro C n b r;subst b;exact vR e g j k m (a.bf (a.lt v)) (.inr ⟨z,.inr (ay i (.head _) v)⟩) (.inr rfl) rfl r f h W (q.bf i) (t.bf a i) (u.bf a i)
  ·refine ae (aS h W) λf h=>?_
   refine gC x.inv ?_;intro qa C n b D F r;subst b;exact vR e g j k m a (.inr ⟨D,.inl F⟩) (.inr rfl) rfl r f h W q t u
 ·refine ae (aS h W) λf h=>?_
  rcases x.inv with ⟨qb,o,C,n,rfl,D,F,e1,e2,r⟩|⟨qb,C,n,sl,rfl,hl,r⟩
  ·exact vR e g j k m a (.inr ⟨D,.inl F⟩) (.inl e1.1) e2 r f h W q t u
  ·exact vR e g j k m a (.inl (e.aZ _ _ hl)) (.inl rfl) rfl r f h W q t u
theorem SR.iH (R:SR c σ s α N) (a:ak c) (o:Obj) (b:o.isFreed=false:=by rfl): SR c σ {s with heap:=s.heap.push o,toks:=t} α ((s.heap.objs.size,o)::N)/\bh σ α N σ α ((s.heap.objs.size,o)::N):=by
 refine Y R.fr λm F d=>?_
 exact R.hidden a (t:=t) d (F.push o) (News.push F R.news o b)
theorem SR.pushS (R:SR c σ s α N) (a:ak c) (b:σ.room=true) (o:Obj) (e:o.isFreed=false:=by rfl) (f:bh σ α N (σ.push ao) (α++[s.heap.objs.size]) ((s.heap.objs.size,o)::N)->OR W (α++[s.heap.objs.size]) ((s.heap.objs.size,o)::N) σ.n o ao): SR c (σ.push ao) {s with heap:=s.heap.push o,toks:=t} (α++[s.heap.objs.size]) ((s.heap.objs.size,o)::N)/\bh σ α N (σ.push ao) (α++[s.heap.objs.size]) ((s.heap.objs.size,o)::N):=by
 refine Y R.fr λm F d=>?_
 exact R.add a b (t:=t) d (F.push o) (News.push F R.news o e) f
theorem SR.vE (R:SR c σ s α N) (j:ak c) {m:Str->Option ael} (k:NR c σ.loc α N m) (f:Fr c.h₀ c.L h' m) (l:agM c.h₀ c.L h' ((a,o)::(N++c.ax))) (n:a∉(N++c.ax).map (·.1)) (q:c.L<a):
  SR c σ {s with heap:=h',toks:=t} α ((a,o)::N)/\bh σ α N σ α ((a,o)::N):=by
 have g:Ge α N α ((a,o)::N):=⟨afJ _,λd h d=>.tail _ h,λd h=>.inl h,λd W h=>⟨W,.tail _ h⟩⟩
 refine ⟨⟨(ay m f (k.mono g)),R.aK.mono g,l,?_,R.inj,λi o hi e=>?_,λa h=>ahH _ (R.all a h),λp A=>?_,R.wf,R.bD,R.len,R.low,R.bt,R.gens,R.os,j.aZ.keeps f.keep⟩,⟨⟨g,aeD _,λd d=>rfl,aeD _,rfl,λd d d d d h d=>.tail _ h,λd d=>⟨rfl,λd d d h=>.tail _ h⟩⟩,rfl⟩⟩
 ·rw[ahd,aeU];exact ae3.mpr ⟨n,R.nodup⟩
 ·refine aH (R.obj i o hi e) λa b r u v=>?_
  exact (bB a b r (.tail _ u) (v.mono g λd d d d h d=>.tail _ h))
 ·rcases aeA.mp A with rfl|A
  ·refine beq_eq_false_iff_ne.mpr λe=>?_
   have w:a=sysModules:=e;exact absurd (aet (ai4 j.lim) f.above) (aft.mpr (agV (w▸q)))
  ·exact R.hi p A
noncomputable abbrev Prim:=List O->Ev
noncomputable def dR (c:Cx W) (A:ae6) (f:ael) (p:Prim):Prop:=∀ l d k y,p l d k=y->y≠.no->∀ s a N E,SR c d s a N->bS c y d a N E->∀ b,ah W.kt a N b l->ae1 l=true->∀ Q,fZ c y d a N k Q->WP W A (afl f b) Q E s
noncomputable def aQ(p:Prim)(a:ec):Ev:=λc k=>a c λl c=>p l c k
noncomputable def noRef(v:ael):Bool:=match v with
 |.ref c=>false
 |_=>true
theorem QZ(h:noRef v=true):keeperOf v=pure Keeper.machine:=by induction v using afo<;>first|rfl|exact aX h
theorem vF (g:ak c){p:Prim}{x:Str}{i:Pos}{n:Nat}{v:ael}{args:List aeM}{a}{pos:Pos}(j:args.any aeH=false) (m:c.scope.names[n]?=some (x,.globalImplicit)) (b:cJ x=true) (o:W.G.boot x=true) (q:ah4 x=some v) (r:noRef v=true) (t:dR c A v p) (u:gL c A args a):aE c A (.Call (.Name x i) args [] pos) (aQ p a):=by
 intro w k y h d s z N E R e Q B;refine Call_ (jY g m b o q R ?_);refine eM (P:=λC=>True) j (λb C=>(ay _ (.inr (.inl rfl)) (af4 (QZ r)))) ?_
 exact u w _ y h d s z N E R e pos _ λl H I L M S h D f F G=>⟨trivial,t _ _ _ _ h d _ _ _ _ D (e.step f.kp) _ F G _ (B.step f)⟩
theorem kT (h:ah T α N vals [a]) (b:ae1 [a]=true):∃ v,vals=[v]/\VR T α N v a:=by
 refine aH (h.ck (gB b).1) ?_;clear h b;intro v W c d A;subst c;rw [A.nil_inv];exact (ay v rfl d)
theorem jW (h:ah T α N vals [a,b]) (e:ae1 [a,b]=true):∃ v w,vals=[v,w]/\VR T α N v a/\VR T α N w b:=by
 refine aH (h.ck (gB e).1) ?_;clear h;intro v f c A d;subst c;refine Y (kT d (gB e).2) ?_;clear d e;intro w c W;subst c;exact (bB v w rfl A W)
theorem Qb (h:ah T α N vals [a,b,z]) (e:ae1 [a,b,z]=true):∃ u v w,vals=[u,v,w]/\VR T α N u a/\VR T α N v b/\VR T α N w z:=by
 refine aH (h.ck (gB e).1) ?_;clear h;intro v g c A d;subst c;refine aH (jW d (gB e).2) ?_;clear d e;intro w u c W f;subst c;exact (l8 v w u rfl A W f)
noncomputable def hU (l:List O) (f:O->Rs):Rs:=aeC l .no λa l=>aeC l (f a) λc c=>.no
@[elab_as_elim]theorem iw{f:O->Rs}{M:List ael->Prop}(b:ah T α N vals l) (e:ae1 l=true) (h:hU l f=y) (g:y≠.no) (k:∀ a v,VR T α N v a->f a=y->M [v]):M vals:=by
 induction l using aeC with
 |nil=>exact bO h g
 |cons a l=>induction l using aeC with
  |nil=>refine Y (kT b e) ?_;clear b e;intro v c d;subst c;exact k a v d h
  |cons=>exact bO h g
noncomputable def ow (l:List O) (f:O->O->Rs):Rs:=aeC l .no λa l=>aeC l .no λb l=>aeC l (f a b) λc c=>.no
@[elab_as_elim]theorem pX{f:O->O->Rs}{M:List ael->Prop}(g:ah T α N vals l) (i:ae1 l=true) (h:ow l f=y) (e:y≠.no) (k:∀ a b v w,VR T α N v a->VR T α N w b->f a b=y->M [v,w]):M vals:=by
 induction l using aeC with
 |nil=>exact bO h e
 |cons a l=>induction l using aeC with
  |nil=>exact bO h e
  |cons b l=>induction l using aeC with
   |nil=>refine aH (jW g i) ?_;clear g i;intro v w c d A;subst c;exact k a b v w d A h
   |cons=>exact bO h e
noncomputable def tR (l:List O):Option Nat:=dO (and (ae1 l) (short l)) (some l.length)
noncomputable def abz (st:Tr) (a:O):Option Nat:=Vw.casesOn (vw st a) (λc=>none) tR tR (λc c=>none) (aD none (iF st a) λd=>dO (aeZ d.length (nat_lit 1000)) (some d.length))
noncomputable def dC:Prim:=λl c k=>hU l λa=>aD .no (abz c.st a) λn=>k (.int (afB n)) c
theorem FT (r:ah T α N vs l) (h:tR l=some n):(vs.toArray.size:Int)<2^63/\vs.toArray.size=n:=by
 refine ae (fR h) ?_;clear h;intro c h;refine ae (aei.mp c) ?_;clear c;intro d A;have e:=afi.trans (r.len d);have:l.length<=1000:=i5 A;exact⟨by omega,e.trans (aej h)⟩
theorem UH:dR c A (.builtin "len") dC:=by
 intro l q k y h f s M N E R P S B C Q D;refine iw B C h f λa v g h=>?_
 refine Y (aR h f) ?_;clear h f;intro n d h;have fin:∀ t,Q (.int (n:Int) t) {s with toks:=s.toks+1+1}:=λt=>D _ _ _ _ _ _ h R.toks .refl (.int _ _)
 have go:∀ w,vw q.st a=w->(Vw.casesOn w (λu=>none) tR tR (λu u=>none) (aD none (iF q.st a) λi=>dO (aeZ i.length (nat_lit 1000)) (some i.length)):Option Nat)=some n->WP W A (call (.builtin "len") [v]) Q E s:=λw j d=>by
  induction w using Vw.casesOn with
  |tup l=>
   refine aH (eY R (Ao j▸g)) ?_;intro x F m o r;subst m;refine ae (FT r d) λb p=>?_
   exact len_tuple o b (p▸fin _)
  |lst l=>
   refine aH (jT R (by unfold eE;rw [j]) g) ?_;clear j;intro x F m o r;subst m
   refine ae (FT r d) ?_;clear r;intro b p;exact call_len_list o b (p▸fin _)
  |bad=>
   refine Y (aR d aO) ?_;clear d;intro i G d;refine kH R g G aO λx H T lo I L e=>?_
   obtain rfl:=aej e;refine ae (fR d) ?_;clear d;intro z d;obtain rfl:=aej d;have z:H.length<=1000:=aer z;have b:=L.len0;exact call_len_dict lo I (by omega) (b▸fin _)
  |_=>exact aT d
 exact go _ rfl d
noncomputable def Bz (st:Tr) (a:O):Option (List O):=Vw.casesOn (vw st a) (λc=>none) some some (λc c=>none) none
noncomputable def bJ:Prim:=λl c k=>hU l λa=>cF (aD .no (eE c.st a) λl=>aN .no (short l) (k (.tup l) c)) a λl=>k (.tup l) c
theorem size_le (r:ah T α N vs l) (h:short l=true):vs.toArray.size<=sizeLine:=
 aeE (agh afi) (aeE r.le (aeE (i5 h) (by decide)))
theorem Q0 (b:ak c):dR c A (.type "tuple") bJ:=by
 intro l z k y h d s B N E R C D o p Q g;refine iw o p h d λa v W h=>?_
 rcases l9 h with h|⟨l,rfl,h⟩
 ·refine Y (aR h d) ?_;clear h;intro l i h;refine ae (aS h d) ?_;clear h d;intro q h;refine aH (jT R i W) ?_;clear i;intro x j e f r;subst e;refine call_tuple_list f (λF u=>?_) (size_le r q)
  have m:=R.ext b (t:=s.toks) u;refine ae (m.iH b {cls:=.type "tuple",data:=.seq j.toArray} (t:=s.toks)) ?_;clear b;intro w n;exact g _ _ _ _ _ _ h w n (.tup (.head _) m.away ⟨rfl,rfl⟩ rfl (r.mono n.ge))
 ·refine aH (eY R W) ?_;intro x j e f r;subst e;exact call_tuple_tup f (g _ _ _ _ _ _ h R .refl W)
noncomputable def gd:Prim:=λl c k=>hU l λa=>aD .no (Bz c.st a) λl=>aN .no (short l) (k (.hl l) c)
noncomputable def sQ:Prim:=λl c k=>hU l λa=>aD .no (Bz c.st a) λl=>aN .no (and (short l) c.room) (k (.ref c.n) (c.push (.list l)))
theorem GB (R:SR c σ s α N) (k:Bz σ.st a=some l) (h:VR W.kt α N v a):∃ x vs o n T,v=.ref x/\(T="list" \/T="tuple")/\s.heap.get? x=some o/\o.cls=.type T/\o.data=.seq vs.toArray n/\ah W.kt α N vs l:=by
 have go:∀ w,vw σ.st a=w->(Vw.casesOn w (λj=>none) some some (λj j=>none) none:Option (List O))=some l->∃ x vs o n T,v=.ref x/\(T="list" \/T="tuple")/\s.heap.get? x=some o/\o.cls=.type T/\o.data=.seq vs.toArray n/\ah W.kt α N vs l:=λw A e=>by
  induction w using Vw.casesOn with
  |tup m=>
   obtain rfl:=aej e;refine aH (eY R (Ao A▸h)) ?_;intro x vs b d r;subst b;refine kU d ?_;clear d;intro o f g n i;exact⟨x,vs,o,n,_,rfl,.inr rfl,f,g,i,r⟩
  |lst m=>
   obtain rfl:=aej e;refine aH (jT R (by unfold eE;rw[A]) h) ?_;clear R A h;intro x vs b d r;subst b
   refine kU d ?_;clear d;intro o f g n i;exact⟨x,vs,o,n,_,rfl,.inl rfl,f,g,i,r⟩
  |_=>exact aT e
 exact go _ rfl k
theorem SR.newList (R:SR c σ s α N) (f:ak c) (h:∀ b o,s.heap.get? b=some o->h'.get? b=some o) (u:h'.get? s.heap.objs.size=some {cls:=.type "list",dict:=none,data:=.seq vs.toArray n,slots:=#[]}) (r:ah W.kt α N vs l):
  (∃ a,SR c σ {s with heap:=h',toks:=t} α a/\bh σ α N σ α a/\VR W.kt α a (.ref s.heap.objs.size) (.hl l))/\
  (σ.room=true->∃ i a,SR c (σ.push (.list l)) {s with heap:=h',toks:=t} i a/\bh σ α N (σ.push (.list l)) i a/\VR W.kt i a (.ref s.heap.objs.size) (.ref σ.n)):=by
 refine Y R.fr λm F d=>?_
 have A:Fr c.h₀ c.L h' m:=⟨F.ns.keeps h,λb o e=>h _ _ (F.keep b o e),F.above⟩
 have a:agM c.h₀ c.L h' ((s.heap.objs.size,{cls:=.type "list",dict:=none,data:=.seq vs.toArray n,slots:=#[]})::(N++c.ax)):=λp j=>by
  rcases aeA.mp j with rfl|j
  ·exact (bH u (agu F.ns.lt) (none_at_size F))
  ·have:=R.news p j
   exact⟨h _ _ this.1,this.2⟩
 refine⟨?_,λq=>?_⟩
 ·refine ae (R.hidden f (t:=t) d A a) λk g=>?_
  exact (dJ _ k g (.hl (n:=n) (.head _) R.away (r.mono g.ge)))
 ·refine ae (R.add f q (t:=t) (ao:=.list l) d A a λg=>.list (n:=n) (r.mono g.ge)) ?_;clear f q d A a r;intro k g
  exact (bB _ _ k g (.ref (kG R.len)))
theorem Q1 (b:ak c):dR c A (.type "list") gd:=by
 intro l G k y h d s H N E R I L j m Q p;refine iw j m h d λa v W h=>?_
 refine Y (aR h d) ?_;clear h;intro l e h;refine ae (aS h d) ?_;clear h d;intro u h;refine D0 (GB R e W) ?_;clear e W;intro x M o n T w z B C D r;subst w;refine call_list_seq x z B C D (λP S f i=>?_) (size_le r u)
 refine cK ((R.newList b f i (t:=s.toks) r).1) ?_;clear R b f i r;intro V F g q;exact p _ _ _ _ _ _ h F g q
theorem Q2 (b:ak c):dR c A (.type "list") sQ:=by
 intro l H k y h d s I N E R L M p u Q w;refine iw p u h d λa v e h=>?_
 refine Y (aR h d) ?_;clear h;intro l f h;refine ae (aS h d) ?_;clear h d;intro W h;refine ae (aei.mp W) ?_;clear W;intro W i;refine D0 (GB R f e) ?_;clear f e;intro x P o n T z B C D F r;subst z;refine call_list_seq x B C D F (λS V j m=>?_) (size_le r W)
 refine aH ((R.newList b j m (t:=s.toks) r).2 i) ?_;clear R b j m r i;intro X Z G g q;exact w _ _ _ _ _ _ h G g q
noncomputable def wt:Prim:=λl c k=>hU l λa=>i9 .no a λb=>k (.int (aex 0 1 b)) c
theorem E2:dR c A (.type "int") wt:=by
 intro l i k y h d s j N E R m n W e Q f;refine iw W e h d λa v g h=>?_
 refine zo g h d λb o h=>?_
 refine call_int_bool ?_;induction b using aen<;>exact f _ _ _ _ _ _ h R.toks .refl (.int _ _)
theorem Q3 (a:afp x=true)(b:afp y=true):afp (x++y)=true:=by
 unfold afp at*;show (x.cps++y.cps).all _=true;rw[Array.all_append,a,b];rfl
noncomputable def abA (m:Bool) (σ:LS) (k:Kv) (l r:List O):Rs:=aN .no (and (short l) (short r)) (aex (k (.hl (l++r)) σ) (aN .no σ.room (k (.ref σ.n) (σ.push (.list (l++r))))) m)
noncomputable def Ya (m:Bool) (σ:LS) (k:Kv) (a b:O):Rs:=aD .no (eE σ.st a) λl=>aD .no (eE σ.st b) λr=>abA m σ k l r
noncomputable def Yb (m:Bool) (σ:LS) (k:Kv) (a b:O):Rs:=cF (Ya m σ k a b) a λl=>cF .no b λr=>aN .no (and (short l) (short r)) (k (.tup (l++r)) σ)
noncomputable def Yc (m:Bool) (σ:LS) (k:Kv) (a b:O):Rs:=afM (Yb m σ k a b) a λx=>afM .no b λy=>aN .no (aeZ (ahT x.length y.length) (nat_lit 1000)) (k (.str (x++y)) σ)
noncomputable def LH (m:Bool) (σ:LS) (k:Kv) (a b:O):Rs:=dU (Yc m σ k a b) a λx=>dU .no b λy=>k (.int (x+y)) σ
noncomputable def bb(m:Bool)(a b:Ev):Ev:=λc k=>a c λx c=>b c λy c=>LH m c k x y
theorem zt (a:short l=true)(b:short r=true)(e:ah T α N vs l)(f:ah T α N ws r):vs.length+ws.length<=sizeLine:=by
 have c:l.length<=1000:=i5 a;have d:r.length<=1000:=i5 b;have A:=e.le;have W:=f.le;have:vs.length+ws.length<=2000:=by omega
 exact aeE this (by decide)
theorem ah.FU (h:ah T α N vs l):vs=[]->∀ {ws r},ah T α N ws r->ah T α N ws (l++r):=ah.ind (P:=λvs l=>vs=[]->∀ {ws r},ah T α N ws r->ah T α N ws (l++r)) (λc c c h=>h) (λc c c e=>nomatch e) (λc c c c e=>nomatch e) (λd c A e c c h=>.no d (A e h)) h
theorem ah.FV (h:ah T α N vs l)(h':ah T α N [] r):ah T α N vs (l++r):=by
 have:=h.app h';rwa [agD] at this
theorem UI (H:ak c) (h:LH m σ k a b=y) (f:y≠.no) (R:SR c σ s α N) (w:VR W.kt α N va a) (z:VR W.kt α N vb b) (o:fZ c y σ α N k Q):WP W A (binaryOp .Add va vb) Q E s:=by
 rcases EN h with e|⟨x,rfl,e⟩
 ·rcases EM e with p|⟨x,rfl,p⟩
  ·rcases l9 p with u|⟨l,rfl,u⟩
   ·refine Y (aR u f) λl hl h=>?_
    refine Y (aR h f) ?_;clear h;intro r hr h;refine ae (aS h f) ?_;clear h;intro I h;refine aH (jT R hl w) ?_;intro x vs d L i;subst d;refine aH (jT R hr z) ?_;clear hr;intro x' ws d M j;subst d;refine ae (aei.mp I) λP S=>?_
    refine Y R.fr λm' F B=>?_
    refine add_lists F R.news L M (λh' C D=>?_) (zt P S i j)
    induction m using aen with
    |true=>
     refine ae (aS h f) ?_;clear h;intro iG h;refine ae (R.add H iG (t:=s.toks) (ao:=.list (l++r)) B C D λg=>.list (n:=0) ((i.app j).mono g.ge)) ?_;clear iG;intro G g
     exact o _ _ _ _ _ _ h G g (.ref (kG R.len))
    |false=>
     refine ae (R.hidden H (t:=s.toks) B C D) λG g=>?_
     exact o _ _ _ _ _ _ h G g (.hl (n:=0) (.head _) R.away ((i.app j).mono g.ge))
   ·refine Y (dP u f) ?_;intro r d h;subst d;refine ae (aS h f) ?_;clear h;intro I h;refine ae (aei.mp I) ?_;clear I;intro P S;refine aH (eY R w) ?_;intro x vs d L i;subst d;refine aH (eY R z) ?_;intro x' ws d M j;subst d;refine Y R.fr λm' F B=>?_
    refine add_tuples F R.news L M (λqa=>?_) (λe1 T=>?_) (λe1 T h' C D=>?_) (zt P S i j)
    ·refine o _ _ _ _ _ _ h R .refl ?_;rcases z.inv with ⟨a,qb,V,X,q,e,p,u,Z,v⟩|⟨a,V,X,sl,q,e,v⟩
     ·exact q▸.tup e p u Z (i.FU qa v)
     ·exact q▸.tupK e (i.FU qa v)
    ·refine o _ _ _ _ _ _ h R .refl ?_;rcases w.inv with ⟨a,qb,V,X,q,e,p,u,Z,v⟩|⟨a,V,X,sl,q,e,v⟩
     ·exact q▸.tup e p u Z (v.FV (T▸j))
     ·exact q▸.tupK e (v.FV (T▸j))
    ·refine ae (R.hidden H (t:=s.toks) B C D) ?_;clear H B C D;intro G g;exact o _ _ _ _ _ _ h G g (.tup (.head _) R.away ⟨rfl,rfl⟩ rfl ((i.app j).mono g.ge))
  ·refine Y w.inv ?_;intro t d ok;subst d;refine gE z p f λqc t' u_ ok' h=>?_
   refine ae (aS h f) ?_;clear h;intro hlen h;exact PyProof.Rows.add_str (λt'' tk=>o _ _ _ _ _ _ h R.toks .refl (.str _ (Q3 ok ok'))) (aeE (aer hlen) (by decide))
 ·refine aL w.inv ?_;clear w;intro t d;subst d;refine i4 z e f λqc t' u_ h=>?_
  exact ajQ (o _ _ _ _ _ _ h R.toks .refl (.int _ _))
theorem UJ (g:ak c) (i:aE c A a j) (l:aE c A b n):aE c A (.BinOp a .Add b pos) (bb m j n):=by
 intro o k y h d s p N E R W Q q;refine wpAny_BinOp ?_;refine i o _ y h d s p N E R W _ λw x z B C D h r e t=>?_
 refine l _ _ _ h d _ _ _ _ r (W.step e.kp) _ λF G H I L M h u f v=>?_
 exact UI g h d u (t.mono f.ge) v (q.step (e.trans f))
noncomputable def iM (a:Ev):Ev:=λc k=>a c λv c=>dU .no v λi=>k (.int (-i)) c
theorem FW (a:aE c A x b):aE c A (.UnaryOp .USub x pos) (iM b):=by
 intro W k y h d s e N E R f Q g;refine UnaryOp_ (a W _ y h d s e N E R f _ λv n val o p q h j l m=>?_)
 refine i4 m h d λi t r h=>?_
 exact PyProof.Rows.neg_int (g _ _ _ _ _ _ h j.toks l (.int _ _))
theorem Qc (n:Nat):ahY none (some (-1:Int)) 1 ((n+1:Nat):Int)=(0,(n:Int)):=by
 unfold ahY;simp only[show ¬ ((1:Int)<0) by omega,if_false,show ((-1:Int)<0) by omega,if_true]
 congr 1;omega
theorem Qd (n:Nat):ag9 0 (n:Int) 1=n:=by
 unfold ag9;simp only[show ((1:Int)>0) by omega,if_true,Int.ediv_one]
 split<;>omega
section
variable{prog:ae9}{w:afq}{A:ae6}{E:ael->aep->Prop}{s:aep}
theorem Pb{Q:Int×Int×Nat->aep->Prop}(a:s.heap.IsSliceOf sl .none (.int (-1) u) .none) (h:Q (0,1,n) s): aeO (aeR prog w) A (ajg (.ref sl) (pure ((n+1:Nat):Int))) Q E s:=by
 refine cK (id a) ?_;clear a;intro os c b d;unfold ajg Builtin.Slice.sliceFields;refine aek (aek (afc c d (x:=.none) rfl (aek (afc c d (x:=.int (-1) u) rfl (aek (afc c d (x:=.none) rfl (aey ?_)))))));refine aek (slicePart_none ?_);show aeO _ _ (if ((1:Int) ==0)=true then _ else _) _ _ s;rw[if_neg (by decide)]
 refine aek (slicePart_none (aek (slicePart_int (aek (aey ?_)))));show aeO _ _ (match ahY none (some (-1:Int)) 1 ((n+1:Nat):Int) with|(lo,W)=>pure (lo,(1:Int),ag9 lo W 1)) _ _ s
 rw[Qc n];show aeO _ _ (pure ((0:Int),(1:Int),ag9 (0:Int) (n:Int) 1)) _ _ s;rw[Qd n];exact aey h
theorem Sx(a:Array ael)(n:Nat):((af2 n).filterMap fun(k:Nat)=>a[((0:Int)+(k:Int)*1).toNat]?).toArray=(a.toList.take n).toArray:=by
 have e:(fun(k:Nat)=>a[((0:Int)+(k:Int)*1).toNat]?)=λk=>a[k]?:=by
  funext k;have:((0:Int)+(k:Int)*1).toNat=k:=by omega
  rw[this]
 rw[e];have:=pick_run a 0 n;rw[List.filterMap_map]at this;have c:((λx=>a[x]?) ∘ λx=>0+x)=λk=>a[k]?:=by funext k;simp
 rw[c]at this;rw[this,ai0]
theorem O3 {Q:ael->aep->Prop}(b:IsTup s.heap t a) (e:s.heap.IsSliceOf sl .none (.int (-1) u) .none) (f:a.size=n+1)
  (h:Q (.ref s.heap.objs.size) {s with heap:=s.heap.push {cls:=.type "tuple",data:=.seq (a.toList.take n).toArray}})
  (j:a.size<=sizeLine):aeO (aeR prog w) A (getItem (.ref t) (.ref sl)) Q E s:=by
 have c:sizeOk (.seq (a.toList.take n).toArray):=by
  show (a.toList.take n).toArray.size<=sizeLine
  rw[afi,List.length_take,aiT]
  omega
 refine cK (id e) λos d W k=>?_
 have g:s.TypeIs (.ref sl) "slice" :=(ay os d W)
 unfold getItem
 try with_reducible refine afX ?_
 first|refine aek (aey ?_)|skip
 refine aek (wpAny_sequenceKey b.typeIs (by decide) ?_)
 refine aek (afR (name:=agE "__getitem__") b.typeIs agA
  (afU agA b.typeIs entry_tuple_getitem ?_ (args_tuple_getitem _ _)))
 show aeO _ _ (Builtin.Tuple.tupleItemsOf (.ref t) >>=_) _ _ s
 refine aek (tupleItemsOf_ b ?_)
 refine aek (aiD g ?_)
 rw[if_pos (by decide),f]
 refine aek (Pb e ?_)
 have i:¬ (((0:Int) ==0&&(1:Int) ==1&&n ==n+1)=true):=by
  have:(n ==n+1)=false:=by rw[beq_eq_false_iff_ne];omega
  rw[this];simp
 show aeO _ _ (if ((0:Int) ==0&&(1:Int) ==1&&n ==n+1)=true then _ else _) _ _ s
 rw[if_neg i,Sx a n]
 first
  |exact aek (m:=ahi _) (afQ (aey (ay _ rfl (aey h))) c)
  |exact aek (m:=ahi _) (afQ (aek (aey (aey ⟨_,rfl,aey h⟩))) c)
  |exact aek (aek (m:=ahi _) (afQ (aey (aey ⟨_,rfl,aey h⟩)) c))
  |exact aek (aek (m:=ahi _) (afQ (aey ⟨_,rfl,aey h⟩) c))
end
theorem ah.take (h:ah T α N vs l):ae1 l=true->∀ n,ah T α N (vs.take n) (l.take n):=ah.ind (P:=λvs l=>ae1 l=true->∀ n,ah T α N (vs.take n) (l.take n)) (λc n=>by induction n using aeI<;>exact .nil)
 (λh c d p n=>by induction n using aeI with
  |zero=>exact .nil
  |succ n=>exact .cons h (d (vB p) n)) (λc c c c=>iu) (λc c c=>iu) h
noncomputable def wu (n:Nat) (l:List O):List O:=aeL (motive:=λc=>Nat->List O) (λc=>[]) (λa c d n=>af6 (motive:=λc=>List O) [] (λm c=>a::d m) n) l n
theorem vG:∀ {l:List O}{n:Nat},wu n l=l.take n
 |[],0=>rfl
 |[],b+1=>rfl
 |a::l,0=>rfl
 |a::l,n+1=>congrArg (a::·) (vG (l:=l))
noncomputable def yw (l:List O):Bool:=and (ae1 l) (short l)
noncomputable def Nr (σ:LS) (k:Kv) (a:O) (n:Nat):Rs:=aD .no (eE σ.st a) λl=>aN .no (yw l) (k (.hl (wu n l)) σ)
noncomputable def gf{a:Type}(z:a)(l:List O)(f:O->List O->a):a:=aeC l z f
theorem g9{b:Type}{z y₀:b}{f:O->List O->b}(h:gf z l f=y₀)(e:y₀≠z):∃ a r,l=a::r/\f a r=y₀:=by
 induction l using aeC with
 |nil=>exact absurd h.symm e
 |cons a r=>exact(gJ a r rfl h)
noncomputable def Nt (σ:LS) (k:Kv) (a:O):Rs:=cF (aD .no (eE σ.st a) λl=>aN .no (yw l) (k (.hl (wu (ago l.length) l)) σ)) a λl=>gf .no l λc r=>aN .no (yw l) (k (.tup (wu r.length l)) σ)
noncomputable def Nu (σ:LS) (k:Kv) (a j:O):Rs:=dU .no j λj=>afF (motive:=λc=>Rs) j (λn=>Nr σ k a n) λm=>aN .no (aew m (nat_lit 0)) (Nt σ k a)
noncomputable def qF(o u:Ev):Ev:=λc k=>o c λa c=>u c λj c=>Nu c k a j
theorem AS:(1000:Nat)<=sizeLine:=by decide
theorem Wm (L:ak c) (h:Nu σ₂ k a j=y) (v:y≠.no) (M:SR c σ₂ b z B) (N:VR W.kt z B V a) (X:VR W.kt z B P j) {Q:ael->aep->Prop} (Z:fZ c y σ₂ z B k Q):
  WP W A (ahP o (.Slice none (some u) none p) V (.ref b.heap.objs.size)) Q E {b with heap:=b.heap.push {cls:=.type "slice",data:=.fields #[.none,P,.none]}}:=by
 have ed:∀ {l:List O} {d:List ael},ah W.kt z B d l->ae1 l=true->short l=true->d.toArray.size<=sizeLine:=λf g i=>size_le f i
 have lists:∀ {l:List O} {w:Int} {r:List O} {m},P=.int w m->eE σ₂.st a=some l->ae1 l=true->short l=true->(∀ d:List ael,ah W.kt z B d l->ah W.kt z B (slicePick d.toArray none (some w) none).toList r)->k (.hl r) σ₂=y->
   WP W A (ahP o (.Slice none (some u) none p) V (.ref b.heap.objs.size)) Q E {b with heap:=b.heap.push {cls:=.type "slice",data:=.fields #[.none,P,.none]}}:=by
  intro l w r m e C g i hr h;subst e;refine aH (jT M C N) ?_;intro x d q R f;subst q;have D:Heap.IsList (b.heap.push {cls:=.type "slice",data:=.fields #[.none,.int w m,.none]}) x d.toArray:=R.at λo e=>aeq _ e
  refine aiZ (s:={b with heap:=b.heap.push {cls:=.type "slice",data:=.fields #[.none,.int w m,.none]}}) D.typeIs list_getitem_lookup (wpAny_getItem_list_slice D (ajb ..) .none (.int _ _) .none (by simp) ?_ (ed f g i)) rfl
  refine ae (M.iH L {cls:=.type "slice",data:=.fields #[.none,.int w m,.none]} (t:=b.toks)) λF G=>?_
  refine ae (F.iH L {cls:=.type "list",data:=.seq (slicePick d.toArray none (some w) none)} (t:=b.toks)) λS H=>?_
  refine Z _ _ _ _ _ _ h S (G.trans H) (.hl (vs:=(slicePick d.toArray none (some w) none).toList) (n:=0) ?_ F.away (((hr d f).mono G.ge).mono H.ge));exact .head _
 refine Y (jU h v) ?_;clear h;intro j q h;subst q;refine aL X.inv ?_;clear X;intro m q;subst q;induction j using afF with
 |ofNat T=>
  refine Y (aR (show Nr σ₂ k a T=y from h) v) λl C h=>?_
  refine ae (aS h v) λI h=>?_
  refine ae (aei.mp I) λg i=>?_
  refine lists rfl C g i (λd f=>?_) h
  rw[show (afB T)=((T:Nat):Int) from rfl,slicePick_upto',vG];exact f.take g _
 |negSucc qa=>
  refine ae (aS (show aN .no (aew qa 0) (Nt σ₂ k a)=y from h) v) λhm h=>?_
  obtain rfl:=aem hm;rcases l9 h with h|⟨l,rfl,h⟩
  ·refine Y (aR h v) λl C h=>?_
   refine ae (aS h v) λI h=>?_
   refine ae (aei.mp I) λg i=>?_
   refine lists rfl C g i (λd f=>?_) h
   rw[show (Int.negSucc 0)=-((1:Nat):Int) from rfl,slicePick_butLast _ 1 (aeD 1),vG];rw[show d.toArray.size=l.length from afi.trans (f.len g)];exact f.take g _
  ·refine be (g9 h v) ?_;clear h;intro x r q h;subst q;refine ae (aS h v) λI h=>?_
   refine ae (aei.mp I) λg i=>?_
   refine aH (eY M N) ?_;clear N;intro x d q R f;subst q;have hlen:d.toArray.size=r.length+1:=afi.trans (f.len g);have D:IsTup (b.heap.push {cls:=.type "slice",data:=.fields #[.none,.int (-1) m,.none]}) x d.toArray:=R.keeps λu_ o e=>aeq _ e
   refine aiZ (s:={b with heap:=b.heap.push {cls:=.type "slice",data:=.fields #[.none,.int (-1) m,.none]}}) D.typeIs agA.lookup (O3 D (ajb ..) hlen ?_ (ed f g i)) rfl;refine ae (M.iH L {cls:=.type "slice",data:=.fields #[.none,.int (-1) m,.none]} (t:=b.toks)) λF G=>?_
   refine ae (F.iH L {cls:=.type "tuple",data:=.seq (d.toArray.toList.take r.length).toArray} (t:=b.toks)) λS H=>?_
   refine Z _ _ _ _ _ _ h S (G.trans H) (.tup (.head _) F.away ⟨rfl,rfl⟩ rfl ?_);rw[vG];exact (((f.take g r.length).mono G.ge).mono H.ge)
theorem Sy (f:ak c) (g:aE c A o i) (l:aE c A u m):aE c A (.Subscript o (.Slice none (some u) none p) pos) (qF i m):=by
 intro n k y h d s q N E R W Q r;refine Subscript_ (g n _ y h d s q N E R W _ λa z B C D F h t b v=>?_)
 refine wpAny_Slice (ah5 (evalPart_some_step ?_));refine l _ _ _ h d _ _ _ _ t (W.step b.kp) _ λj G H I L M h w e x=>ah5 ?_
 exact Wm f h d w (v.mono e.ge) x (r.step (b.trans e))
noncomputable def Ht (σ:LS) (k:Kv) (a j:O):Rs:=dU .no j λj=>aN .no (wq j) (cF .no a λl=>gf .no l λc r=>aN .no (yw l) (k (.tup r) σ))
theorem Sz (h:wq j=true):j=((1:Nat):Int):=by
 induction j using afF with
 |ofNat n=>exact congrArg afB (aem h)
 |negSucc=>exact aX h
noncomputable def qG(o u:Ev):Ev:=λc k=>o c λa c=>u c λj c=>Ht c k a j
theorem SA (i:ak c) (h:Ht σ₂ k a j=y) (f:y≠.no) (m:SR c σ₂ b n q) (B:VR W.kt n q N a) (C:VR W.kt n q P j) {Q:ael->aep->Prop} (R:fZ c y σ₂ n q k Q): WP W A (ahP o (.Slice (some u) none none p) N (.ref b.heap.objs.size)) Q E {b with heap:=b.heap.push {cls:=.type "slice",data:=.fields #[P,.none,.none]}}:=by
 refine Y (jU h f) ?_;clear h;intro j d h;subst d;refine aL C.inv ?_;clear C;intro v d;subst d;refine ae (aS h f) ?_;clear h;intro S h;obtain rfl:=Sz S;refine Y (dP h f) ?_;clear h;intro l d h;subst d;refine be (g9 h f) ?_;clear h;intro x r d h;subst d;refine ae (aS h f) ?_;clear h f;intro D h;refine ae (aei.mp D) ?_;clear D;intro w T;refine aH (eY m B) ?_;clear B;intro x z d F g;subst d;have V:z.toArray.size=r.length+1:=afi.trans (g.len w);have G:IsTup (b.heap.push {cls:=.type "slice",data:=.fields #[.int ((1:Nat):Int) v,.none,.none]}) x z.toArray:=F.keeps λX o e=>aeq _ e
 refine aiZ (s:={b with heap:=b.heap.push {cls:=.type "slice",data:=.fields #[.int ((1:Nat):Int) v,.none,.none]}}) G.typeIs agA.lookup (getItem_tuple_from G (ajb ..) (aeD 1) (V▸agC 1 _) ?_ (size_le g T)) rfl;refine ae (m.iH i {cls:=.type "slice",data:=.fields #[.int ((1:Nat):Int) v,.none,.none]} (t:=b.toks)) ?_;clear m;intro H I;refine ae (H.iH i {cls:=.type "tuple",data:=.seq (z.toArray.toList.drop 1).toArray} (t:=b.toks)) ?_;clear i;intro L M;refine R _ _ _ _ _ _ h L (I.trans M) (.tup (.head _) H.away ⟨rfl,rfl⟩ rfl ?_);refine aH (g.ck (gB w).1) ?_;clear g w F L;intro qa CH d X Z;subst d;exact ((Z.mono I.ge).mono M.ge)
theorem SD (f:ak c) (g:aE c A o i) (l:aE c A u m):aE c A (.Subscript o (.Slice (some u) none none p) pos) (qG i m):=by
 intro n k y h d s q N E R W Q r;refine Subscript_ (g n _ y h d s q N E R W _ λa z B C D F h t b v=>?_)
 refine wpAny_Slice (evalPart_some_step ?_);refine l _ _ _ h d _ _ _ _ t (W.step b.kp) _ λj G H I L M h w e x=>ah5 (ah5 ?_)
 exact SA f h d w (v.mono e.ge) x (r.step (b.trans e))
theorem SR.qH (R:SR c σ s α N) (h:ak c) (j:cM i σ.mark=false) (k:α[i]?=some a) (f:(a,o)∈N) (l:∀ x,σ.st.get (i+1)=some x->i+1<σ.n->(∃ C r,x=.obj C r)->False) (n:aiE a s.heap h') (v:h'.get? a=some o') (w:∀ b,Ge α N α b->OR W α b i o' ao') (p:∀ q,o=afn q->∃ y,o'=afn y:=by intro q e;cases e): ∃ b,SR c (σ.put i ao') {s with heap:=h',toks:=t} α b/\bh σ α N (σ.put i ao') α b:=by
 refine Y R.fr λm F d=>?_
 have z:=R.news _ (aeo _ f);refine cK (R.mod h (ao':=ao') (o':=o') k f (iy j) p l) ?_;clear h k f j p l;intro b u g K;refine eJ u.split ?_;clear u;intro G H A B D E;refine (ay b (K (t:=t) d (F.change n z.2.1 z.2.2) ?_ (w b g.ge)) g);rw[B];exact news_set (A▸R.news) D E n v
theorem SR.vz (R:SR c σ s α N) (e:α[i]?=some a) (f:(a,aeG vs n)∈N):∀ x,σ.st.get (i+1)=some x->i+1<σ.n->(∃ C b,x=.obj C b)->False:=by
 rintro x d A⟨C,b,rfl⟩;refine aH (R.obj _ _ A d) ?_;clear A d;intro o p q r W;refine ir W.inv ?_;clear W;intro j t u m g h k l g;obtain rfl:=af0 h;obtain rfl:=aej (e.symm.trans k);exact absurd (congrArg Obj.cls (R.uniq f l)) (by show ¬ (agF "list" =agF "dict");decide)
@[elab_as_elim]theorem pN (R:SR c σ s α N){g:Type}{z y₀:g}{f:Nat->List O->g}{M:ael->Prop}(j:VR W.kt α N v a) (h:d0 z σ.st a (λi o=>gF z o (f i))=y₀) (e:y₀≠z) (k:∀ i x l vs n,α[i]?=some x->(x,aeG (aju vs) n)∈N->ah W.kt α N vs l->f i l=y₀->M (.ref x)):M v:=
 ma R j h e λi x b o t m p q A h=>by refine Y (pL h e) ?_;clear h e q;intro l d h;subst d;refine be A.inv ?_;clear A;intro vs n d r;subst d;exact k i x l vs n m p r h
noncomputable def bT (a:Tr->O->Bool) (p:Prim) (o:Ev) (b:ec):Ev:=λc k=>o c λv c=>aN .no (a c.st v) (b c λl c=>p (v::l) c k)
theorem Wn (Z:ak c){T:String}{name:Str}{id:String}{i:Tr->O->Bool}{j pos:Pos}{args:List aeM}{l m}(w:eI o=true) (n:args.any aeH=false) (x:args.length<30) (q:(j.endLine ==pos.line)=true) (r:∀ {σ:LS}{s:aep}{α N}{v:O}{val:ael},i σ.st v=true->SR c σ s α N->VR W.kt α N val v->s.TypeIs val T/\∀ a,val=.ref a->∃ o,s.heap.get? a=some o/\o.dict=none) (z:PlainAttrs T) (B:Slot T name id) (C:typeOf (.builtin id)=pure (.type "method_descriptor")) (D:dR c A (.builtin id) p) (F:aE c A o l) (G:gL c A args m): aE c A (.Call (.Attribute o name j) args [] pos) (bT i p l m):=by
 intro σ k y h d s α N E R b Q H;refine vO w n x q (F σ _ y h d s α N E R b _ λv dk val dn cL bZ h t e f=>?_)
 intro pl;refine ae (aS h d) ?_;clear h;intro u h;refine ae (r u t f) ?_;clear r u;intro I L;refine getMethod_builtin I z B C L ?_;refine eM (P:=λM=>True) n (λq M=>(ay _ (.inr (.inl rfl)) (af4 rfl))) ?_
 exact G _ _ y h d _ _ _ _ t (b.step e.kp) pos _ λqa σ₂ vs eb ek dK h S g V X=>⟨trivial,D _ _ _ _ h d _ _ _ _ S (b.step (e.trans g).kp) _ (.cons (f.mono g.ge) V) (vM f X) _ (H.step (e.trans g))⟩
noncomputable def c0 (st:Tr) (v:O):Bool:=aD false (eE st v) λc=>true
theorem Q4 (h:c0 σ.st v=true) (R:SR c σ s α N) (b:VR W.kt α N val v):s.TypeIs val "list" /\∀ a,val=.ref a->∃ o,s.heap.get? a=some o/\o.dict=none:=by
 refine Y (aR h nofun) ?_;clear h;intro l d f;refine cj (zL R d b) ?_;clear R d b;intro x i n g A f;subst g;exact⟨(ay _ A rfl),λa e=>by cases e;exact (ay _ A rfl)⟩
noncomputable def n7 (st:Tr) (v:O):Bool:=aD false (iF st v) λc=>true
theorem Q5 (h:n7 σ.st v=true) (R:SR c σ s α N) (b:VR W.kt α N val v):s.TypeIs val "dict" /\∀ a,val=.ref a->∃ o,s.heap.get? a=some o/\o.dict=none:=by
 refine Y (aR h nofun) ?_;clear h;intro f A e;exact kH R b A aO λx g i lo d j e=>⟨d.typeIs,d.mapOf.noDict⟩
noncomputable def tl(_:Tr)(v:O):Bool:=afM false v λc=>true
theorem SE(h:tl σ.st v=true)(R:SR c σ s α N)(b:VR W.kt α N val v):s.TypeIs val "str" /\∀ a,val=.ref a->∃ o,s.heap.get? a=some o/\o.dict=none:=by
 refine gE b h nofun λx t d A d=>?_
 exact⟨typeIs_str s _ _,λa e=>by contradiction⟩
noncomputable def dZ:Prim:=λl c k=>ow l λa x=>d0 .no c.st a λi o=>gF .no o λl=>rz .no (cM i c.mark) (aN .no (short l) (k .none (c.put i (.list (l++[x])))))
theorem Qe (e:ak c):dR c A (.builtin "list.append") dZ:=by
 intro l H k y h d s I N E R L M q u Q z;refine pX q u h d λa x v w B f h=>?_
 refine pN R B h d λi P l j C b W r h=>?_
 refine ae (sG h d) ?_;clear h;intro m h;refine ae (aS h d) ?_;clear h d;intro D h;refine append_at (n:=C) (R.get W) (λS o p=>?_) (size_le r D)
 refine Y (R.qH e (t:=s.toks) (ao':=.list (l++[x])) m b W (R.vz b W) o p λF g=>by rw[show (j.toArray.push w)=(j++[w]).toArray from List.push_toArray ..];exact .list ((r.app (.cons f .nil)).mono g)) ?_;clear R e m b W o p r f;intro F G g
 exact z _ _ _ _ _ _ h G g .none
noncomputable def qI (l:List O):Option (List O×O):=aeL (motive:=λc=>Option (List O×O)) none (λa c d=>ae2 (some ([],a)) (λp=>some (a::p.1,p.2)) d) l
theorem SF:∀ {p:List O×O},qI l=some p->l=p.1++[p.2]:=by
 induction l with
 |nil=>intro p h;exact aT h
 |cons a l c=>
  intro p h;have h:(ae2 (some ([],a)) (λp=>some (a::p.1,p.2)) (qI l):Option (List O×O))=some p:=h
  induction e:qI l using aeB with
  |none=>
   rw[e]at h;obtain rfl:=aej h;clear c;induction l using aeC with
   |nil=>rfl
   |cons b l=>
    have e:(ae2 (some ([],b)) (λp=>some (b::p.1,p.2)) (qI l):Option (List O×O))=none:=e
    cases q:qI l<;>rw[q]at e<;>exact nk e
  |some q=>
   rw[e]at h;obtain rfl:=aej h;exact congrArg (a::·) (c e)
theorem ah.Qf:∀ {vs},ah T α N vs (l++[z])->ae1 (l++[z])=true->∃ ws v,vs=ws++[v]/\ah T α N ws l/\VR T α N v z:=by
 induction l with
 |nil=> intro vs h p;refine Y (kT h p) ?_;intro v c q;subst c;exact⟨[],v,rfl,.nil,q⟩
 |cons a l d=> intro vs h p;refine aH (ah.ck h (gB p).1) ?_;clear h;intro u e c A r;subst c;refine aH (d r (gB p).2) ?_;clear r p;intro ws v c W b;subst c;exact (bB (u::ws) v rfl (.cons A W) b)
noncomputable def tS:Prim:=λl c k=>hU l λa=>d0 .no c.st a λi o=>gF .no o λl=>rz .no (cM i c.mark) (aN .no (and (short l) (ae1 l)) (aD .no (qI l) λp=>k p.2 (c.put i (.list p.1))))
theorem UK (f:ak c):dR c A (.builtin "list.pop") tS:=by
 intro l P k S h d s T N E R V X x z Q B;refine iw x z h d λa v C h=>?_
 refine pN R C h d λi Z l vs D e W j h=>?_
 refine ae (sG h d) ?_;clear h;intro m h;refine ae (aS h d) ?_;clear h;intro b h;refine ae (aei.mp b) ?_;clear b;intro b o;refine Y (aR h d) ?_;clear h d;intro p F G;obtain rfl:=SF F;refine aH (j.Qf o) ?_;clear o;intro q v H r I;subst H;refine Copied.pop_at (n:=D) (R.get W) (y:=v) (by simp) (λh' u w=>?_) (size_le j b)
 refine Y (R.qH f (t:=s.toks) (ao':=.list p.1) m e W (R.vz e W) u w λL g=>by
  rw[show ((q++[v]).toArray.pop)=q.toArray by simp]
  exact .list (r.mono g)) ?_;clear R f m e W u w r;intro L M g
 exact B _ _ _ _ _ _ G M g (I.mono g.ge)
noncomputable def nR:Prim:=λl c k=>ow l λa x=>d0 .no c.st a λi o=>gF .no o λl=>rz .no (cM i c.mark) (aD .no (eE c.st x) λr=>aN .no (and (short l) (short r)) (k .none (c.put i (.list (l++r)))))
theorem Qg (a x:Array ael) (n:Nat) (d:Option aez) (sl:Array (Option ael)):∃ b,Obj.mapSeq (·++x) {cls:=.type "list",dict:=d,data:=.seq a n,slots:=sl}={cls:=.type "list",dict:=d,data:=.seq (a++x) b,slots:=sl}:=by
 exact⟨if (a++x).size ==a.size then n else n+1,rfl⟩
theorem Qh (o:ak c):dR c A (.builtin "list.extend") nR:=by
 intro l X k y h b s Z N E R hE vals C D qa F;refine pX C D h b λa x qb qc G p h=>?_
 refine pN R G h b λqd a l d n j f i h=>?_
 refine ae (sG h b) ?_;clear h;intro q h;refine Y (aR h b) ?_;clear h;intro r u h;refine ae (aS h b) ?_;clear h b;intro v h;refine ae (aei.mp v) ?_;clear v;intro w H;refine cj (zL R u p) ?_;clear u p;intro I W L M P m;subst M;have z:d.toArray.size+W.toArray.size<=sizeLine:=by rw[afi,afi];exact zt w H i m
 have Q:¬(!d.toArray.isEmpty&&ah6 (d.toArray.size+W.toArray.size))=true:=by
  rw[show ah6 (d.toArray.size+W.toArray.size)=false from decide_eq_false (aft.mpr z),Bool.and_false];exact aeY
 refine aL (Qg d.toArray W.toArray n none #[]) λS e=>?_
 refine aif ajy (ay _ (R.get f) rfl) PySem.F.entry_list_extend (PySem.F.args_list_extend_2 _ _) (PySem.AutoSeq1.list_extend_list_list_0 a d.toArray n I W.toArray L Q (size_le i w) (ag6 z)) (bH (R.get f) P ?_);have B:(s.heap.update a (Obj.mapSeq λx=>x++W.toArray)).get? a=some (aeG (d++W).toArray S):=by
  rw[agd _ (R.get f) (by rw[show aeG d.toArray n={cls:=.type "list",dict:=none,data:=.seq d.toArray n,slots:=#[]}from rfl,e];rfl)]
  rw[show aeG d.toArray n={cls:=.type "list",dict:=none,data:=.seq d.toArray n,slots:=#[]}from rfl,e];rw[show d.toArray++W.toArray=(d++W).toArray from (List.append_toArray ..)]
 refine Y (R.qH o (t:=s.toks) (ao':=.list (l++r)) q j f (R.vz j f) (agr ..) B λT g=>.list ((i.app m).mono g)) ?_;clear R o q j f B i m;intro T V g
 exact F _ _ _ _ _ _ h V g .none
noncomputable def Wo (l:List O) (dflt:O) (f:O->O->O->Rs):Rs:=aeC l .no λa l=>aeC l .no λb l=>aeC l (f a b dflt) λz l=>aeC l (f a b z) λc c=>.no
noncomputable def oO:Prim:=λl c k=>Wo l .none λd x z=>d0 .no c.st d λW o=>ix .no o λA=>afM .no x λx=>k (ae2 z (λv=>v) (bw x A)) c
theorem FX (h:aU T α N kvs a) (b:VR T α N w z):VR T α N ((aie kvs x).getD w) (ae2 z (λv=>v) (bw x a)):=by
 rcases h.find (x:=x) with⟨v,val,c,d,q⟩|⟨c,d⟩
 ·rw[c,d];exact q
 ·rw[c,d];exact b
theorem UL:dR c A (.builtin "dict.get") oO:=by
 intro l F k y h d s G N E R H I f g Q p;induction l using aeC with
 |nil=>exact bO h d
 |cons a l=>induction l using aeC with
  |nil=>exact bO h d
  |cons b l=>induction l using aeC with
   |nil=>
    refine aH (jW f g) ?_;intro u v i j m;subst i;refine kH R j h d λx q r lo e n h=>gE m h d λo t B C h=>?_
    exact call_meetsIn aiy e.typeIs ajM (PySem.F.args_dict_get_2 _ _) (meets_dict_get (afb W.prog W.w) _ (ag7 W.prog W.w o t) lo) ⟨_,e.mapOf,p _ _ _ _ _ _ h R.toks .refl (FX n .none)⟩
   |cons z l=>induction l using aeC with
    |nil=>
     refine gC (Qb f g) ?_;clear f g;intro u v w i j m D;subst i;refine kH R j h d λx q r lo e n h=>gE m h d λo t B C h=>?_
     exact call_meetsIn aiy e.typeIs ajM (PySem.F.args_dict_get_3 _ _ _) (meets_dict_get_default (afb W.prog W.w) _ (ag7 W.prog W.w o t) lo w) ⟨_,e.mapOf,p _ _ _ _ _ _ h R.toks .refl (FX n D)⟩
    |cons=>exact bO h d
noncomputable def ft(x y:Str):Bool:=PySem.Spec.ltCps x.cps.toList y.cps.toList
noncomputable def BA (x:Str) (l:List Str):List Str:=aeL (motive:=λd=>List Str) [x] (λa l c=>aex (x::a::l) (a::c) (ft a x)) l
noncomputable def wx (l:List Str):List Str:=aeL (motive:=λc=>List Str) [] (λa c d=>BA a d) l
noncomputable def BB (l:List Str):Bool:=aeL (motive:=λd=>Bool) true (λa l c=>and (List.all l λb=>not (ft b a)) c) l
theorem Ew (x:Str):∀ l,(BA x l).Perm (x::l)
 |[]=>.refl _
 |a::l=>by show (aex (x::a::l) (a::BA x l) (ft a x):List Str).Perm _;induction ft a x using aen with
  |true=>exact ((Ew x l).cons a).trans (.swap _ _ _)
  |false=>exact .refl _
theorem Ed:∀ l,(wx l).Perm l
 |[]=>.refl _
 |a::l=>(Ew a (wx l)).trans ((Ed l).cons a)
theorem FY:∀ {l:List Str},BB l=true->l.Pairwise λa b=>ft b a=false
 |[],i=>.nil
 |a::l,h=>by
  refine ae (aei.mp (show and (List.all l λb=>not (ft b a)) (BB l)=true from h)) ?_;clear h;intro e f
  exact .cons (λb g=>(aeT _).mp (aeK.mp e b g)) (FY f)
theorem GC:ft x y=decide (x.cps.toList<y.cps.toList):=PyProof.Rows.ltCps_eq _ _
theorem Q6 (a:ft y x=false) (b:ft z y=false):ft z x=false:=by
 rw[GC,decide_eq_false_iff_not]at*;exact λh=>(ajR.negTrans z.cps.toList y.cps.toList x.cps.toList (decide_eq_true h)).elim (λq=>b (of_decide_eq_true q)) λq=>a (of_decide_eq_true q)
theorem SG (a:ft y x=false)(b:ft x y=false):x=y:=by
 rw[GC]at a b;have:=ajR.total x.cps.toList y.cps.toList b a;exact congrArg Str.mk (Array.toList_inj.mp this)
theorem zu:∀ {l:List Str}{p:Str},ajS p l=true->(∀ x∈l,ft x p=false)/\l.Pairwise λa b=>ft b a=false
 |[],p,k=>⟨λx i=>(nomatch i),.nil⟩
 |x::r,p,h=>by
  refine ae (aei.mp (show and (!PySem.Spec.ltCps x.cps.toList p.cps.toList) (ajS x r)=true from h)) ?_;clear h;intro e f;refine ae (zu f) ?_;clear f;intro g j;have e:ft x p=false:=(aeT _).mp e;refine⟨λz c=>?_,.cons g j⟩
  rcases aeA.mp c with rfl|c
  ·exact e
  ·exact Q6 e (g z c)
theorem Qi:∀ {l:List Str},ajT l=true->l.Pairwise λa b=>ft b a=false
 |[],e=>.nil
 |x::r,h=>.cons (zu (l:=r) (p:=x) h).1 (zu (l:=r) (p:=x) h).2
theorem Q7:∀ {b:List Str},a.Perm b->(a.Pairwise λa b=>ft b a=false)->(b.Pairwise λa b=>ft b a=false)->a=b:=by
 induction a with
 |nil=>exact λp i j=>p.nil_eq
 |cons x r W=>
  intro b p d A;induction b using aeC with
  |nil=>exact nomatch p.length_eq
  |cons y t=>
   have f:x∈y::t:=p.mem_iff.mp (.head _);have g:y∈x::r:=p.mem_iff.mpr (.head _);have e:x=y:=by
    rcases aeA.mp f with h|h
    ·exact h
    ·rcases aeA.mp g with c|c
     ·exact c.symm
     ·exact SG ((ah7.mp d).1 y c) ((ah7.mp A).1 x h)
   subst e;rw[W (List.Perm.cons_inv p) (ah7.mp d).2 (ah7.mp A).2]
noncomputable def strsOf (l:List O):Option (List Str):=aeL (motive:=λc=>Option (List Str)) (some []) (λa c d=>afM none a λx=>aD none d λr=>some (x::r)) l
noncomputable def BC (l:List Str):List O:=aeL (motive:=λc=>List O) [] (λx c d=>.str x::d) l
theorem Ex (h:ah T α N vs l):∀ {a:List Str},strsOf l=some a->StrsAre vs a/\∀ x∈a,afp x=true:=ah.ind (P:=λvs l=>∀ {a:List Str},strsOf l=some a->StrsAre vs a/\∀ x∈a,afp x=true)
 (λe=>by cases aej e;exact⟨.nil,λx d=>nomatch d⟩)
 (fun{v b vs f}g _ A{a}e=>by
  have e:afM none b (λx=>aD none (strsOf f) λr=>some (x::r))=some a:=e
  refine gE g e aO λx t c i e=>?_
  refine Y (aR e aO) ?_;clear e;intro r W e;obtain rfl:=aej e;refine ae (A W) ?_;clear A W;intro j k;exact⟨.cons _ t j,λx d=>(aeA.mp d).elim (λe=>e▸i) (k x)⟩)
 (λc c c c c e=>nomatch e) (λc c c c e=>nomatch e) h
theorem FZ (r:StrsAre vs a):(∀ x∈a,afp x=true)->ah T α N vs (BC a):=by
 induction r with
 |nil=>exact λA=>.nil
 |cons y t W c=>exact λh=>.cons (.str t (h y (.head _))) (c λx d=>h x (.tail _ d))
noncomputable def Wp (n:Nat):Bool:=aeZ n (nat_lit 60)
noncomputable def tm (a:List Str) (σ:LS) (k:Kv):Rs:=aN .no (and (Wp a.length) (BB (wx a))) (k (.hl (BC (wx a))) σ)
noncomputable def sx (a:List (Str×O)):List Str:=aeL (motive:=λc=>List Str) [] (λe c d=>e.1::d) a
noncomputable def nS:Prim:=λl c k=>hU l λa=>aD (aD .no (iF c.st a) λd=>aN .no (keysOk d) (tm (sx d) c k)) (eE c.st a) λl=>aD .no (strsOf l) λA=>tm A c k
theorem E3 (h:tm a σ k=y) (b:y≠.no) (g:f.Perm a) (i:ajT f=true):k (.hl (BC f)) σ=y:=by
 refine ae (aS h b) ?_;clear h b;intro e h;rw[Q7 (g.trans (Ed a).symm) (Qi i) (FY (aei.mp e).2)];exact h
theorem Ey (h:tm a σ k=y) (b:y≠.no):a.length<64:=by
 refine ae (aS h b) ?_;clear h b;intro e c;have:a.length<=60:=aer (aei.mp e).1;omega
theorem PS:(sx a).length=a.length:=by
 induction a with
 |nil=>rfl
 |cons e a c=>exact congrArg (·+1) c
theorem Qj (r:aU T α N kvs a):keysOk a=true->(∀ x∈sx a,afp x=true)/\∀ vs:List ael,vs.length=kvs.length->(∀ (j:Nat) (v:ael),vs[j]?=some v->∃ k x,kvs[j]?=some (k,x)/\Value.isStrOf k v=true)->StrsAre vs (sx a):=by
 induction r with
 |nil=>exact λg=>⟨λx d=>(nomatch d),λvs c g=>by induction vs using aeC with|nil=>exact .nil|cons=>cases c⟩
 |cons p s A=>
  intro e;refine ae (aei.mp e) ?_;clear e;intro h W;refine ae (A W) ?_;clear A W;intro i l;refine⟨λx d=>(aeA.mp d).elim (λq=>q▸h) (i x),λvs c b=>?_⟩
  induction vs using aeC with
  |nil=>cases c
  |cons v vs=>
   refine be (b 0 v rfl) λk x m f=>?_
   cases aej m
   refine aL (Value.isStrOf_shape f) ?_;clear f;intro t n;subst n;exact .cons _ t (l vs (af0 c) λj u o=>b (j+1) u o)
theorem Qk {E:ael->aep->Prop}{P:Nat->ael->Prop}{g:afm->Prop}{m:Str->Option ael}{Q:ael->aep->Prop} (K:KdlSrc prog w T r d n P g) (y:A.handled=none) (F:Fr a L s.heap m) (N:agM a L s.heap i) (nC:g s.heap) (k:n<=sizeLine) (h:∀ (D:aez) (h':afm) (tk:Nat) (vs:List ael),Fr a L h' m->agM a L h' ((D,aeG vs.toArray 0)::i)->(∀ q∈i,q.1<D)->vs.length=n->(∀ (j:Nat) (v:ael),vs[j]?=some v->P j v)->L<D-> aeO (aeR prog w) A.in1 (call (.builtin "list.sort") [.ref D]) (λb l=>Q (.ref D) l) E {s with heap:=h',toks:=tk}): aeO (aeR prog w) A (call (.builtin "sorted") [.ref r]) Q E s:=by
 refine call_function_entry kind_sorted plain_sorted PyProof.Rows.entry_sorted (args_sorted1 _) ?_;unfold Builtin.«sorted»;refine aek (m:=checkCount "sorted" 1 1 _) (aey ?_);refine aek (kdu_collect (A:=A.in1) K y nC k λh' tk c W o=>?_)
 have t:c.toList.length=n:=by rw [aiT];exact o.1
 have f:=F.keeps W;refine aek (wpAny_newList ?_ (by rw [t];exact k))
 have z:=h h'.objs.size (h'.push {cls:=.type "list",data:=.seq c.toList.toArray}) tk c.toList (f.push _) (News.push f (λp u=>⟨W _ _ (N p u).1,(N p u).2⟩) _ rfl) (λq B=>aeS (W _ _ (N q B).1)) t (λj v e=>o.2 j v (by rw [←Array.getElem?_toList];exact e)) f.ns.lt
 refine aek (afX (afN z (λb l x=>?_) λb b e=>e))
 exact aey (ay _ rfl x)
theorem Ql (C:ak c) (hA:aP c d A):dR c A (.builtin "sorted") nS:=by
 intro qb Q qc qd h f m α N qg R hE vals hv a qh S;refine iw hv a h f λqe qi k h=>?_
 refine Y R.fr λqf F E=>?_
 by_cases G:qd=aD .no (iF Q.st qe) λH=>aN .no (keysOk H) (tm (sx H) Q qc)
 ·refine Y (aR G.symm f) λH hd h=>?_
  refine ae (aS h f) ?_;clear h;intro T h;refine kH R k hd aO λx es' kvs lo V X BD=>?_
  obtain rfl:=aej BD;refine P4 (agc.mp V) ?_;clear V;intro b q2 CG ep hxx uJ tj sO iV;have ht:m.heap.DictAt (ajh W.prog W.w) x _ ep:=(vt b CG q2 hxx uJ tj sO iV);refine ae (Qj X T) ?_;clear T;intro k1 k2;have Z:=Ey h f;rw[PS]at Z;have Nv:=X.len0;refine Qk (kdl_dict (knd:=ajh W.prog W.w) lo) hA.handled F R.news ht (aeE (show _<=1000 by omega) AS) λD i tk j l r bN hvl ie Nw=>?_
  have w:=k2 j hvl ie;have y:i.get? D=some (PyProof.Rows.seqObj "list" j.toArray 0):=(r _ (.head _)).1;refine afU PyProof.Rows.slot_list_sort (ay _ y rfl) PyProof.Rows.entry_list_sort (list_sort_treeK (s:={m with heap:=i,toks:=tk}) strKind_oneLt y w.keysOf (λtT rh rest e=>keyKind_strs (by rw[←e];exact w)) (by omega) λu a1 a2=>(ay _ rfl ?_)) (PyProof.Rows.args_list_sort _)
  refine cK (sorted_out_str w a1 a2) ?_;clear w a1 a2;intro ss' b1 b2 b3;have I:=E3 h f b2 b3;refine aL (sortedHeap_at (vs:=j) (out:=(arrOf u).map (·.2)) y) ?_;clear y;intro e he;have L:∀ b o,b≠D->i.get? b=some o->(sortedHeap i D j ((arrOf u).map (·.2))).get? b=some o:=λb o hb q=>(sortedHeap_old hb (aeS q)).trans q
  have M:=r _ (.head _);have Nx:Fr c.h₀ c.L (sortedHeap i D j ((arrOf u).map (·.2))) qf:=⟨l.ns.at' λo q=>L _ o (λz=>M.2.1 z.symm) q,λb o q=>L b o (λz=>by rw[z,M.2.2]at q;exact aT q) (l.keep b o q),l.above⟩
  have B:agM c.h₀ c.L (sortedHeap i D j ((arrOf u).map (·.2))) ((D,aeG ((arrOf u).map (·.2)).toList.toArray e)::(N++c.ax)):=λp a=>by
   rcases aeA.mp a with rfl|a
   ·exact⟨by rw[aiF];exact he,M.2⟩
   ·have z:=r p (.tail _ a);exact⟨L _ _ (aeN (bN p a)) z.1,z.2⟩
  have v:D∉(N++c.ax).map (·.1):=λq=>by
   refine Y (aeP.mp q) λp a e=>?_
   exact afG _ (e▸bN p a)
  refine ae (R.vE C (t:=tk) E Nx B v Nw) ?_;clear Nx Nw;intro P g;exact S _ _ _ _ _ _ I P g (.hl (n:=e) (.head _) (λq=>v (by rw[aeX];exact aeo _ (R.all _ q))) (FZ b1 λx k=>k1 x (b2.mem_iff.mp k)))
 ·refine Y (aR h G) ?_;clear h G;intro qb hl h;refine Y (aR h f) ?_;clear h;intro ss Ny h;refine aH (jT R hl k) ?_;intro x j bj it qa;subst bj;refine ae (Ex qa Ny) ?_;clear qa Ny;intro h1 h2;have Z:=Ey h f;refine sorted_N_str F R.news it h1 (by have:=StrsAre.length h1;omega) λi CH ss' e l r h3 h4 h5=>?_
  refine Y R.fr λm' abB eA=>?_
  have B:agM c.h₀ c.L i ((m.heap.objs.size+1,aeG CH.toArray e)::(N++c.ax)):=r;have I:=E3 h f h4 h5;have v:m.heap.objs.size+1∉(N++c.ax).map (·.1):=λq=>by
   refine Y (aeP.mp q) λp a e=>?_
   have:=aeS (R.news p a).1;rw[e]at this;exact absurd this (aft.mpr (af7 _))
  refine ae (R.vE C (t:=m.toks) E l B v (afg F.ns.lt)) ?_;clear C E l B F;intro P g;exact S _ _ _ _ _ _ I P g (.hl (n:=e) (.head _) (λq=>v (by rw[aeX];exact aeo _ (R.all _ q))) (FZ h3 λx k=>h2 x (h4.mem_iff.mp k)))
theorem SR.grow(R:SR c σ s α N)(a:ak c)(k:∀ b o,s.heap.get? b=some o->h'.get? b=some o):SR c σ {s with heap:=h',toks:=t} α N:=R.ext a k
noncomputable def boolsOf (l:List O):Option Bool:=aeL (motive:=λc=>Option Bool) (some true) (λa c d=>i9 none a λb=>aD none d λr=>some (and b r)) l
noncomputable def BE:Prim:=λl c k=>hU l λa=>aD .no (eE c.st a) λl=>aD .no (boolsOf l) λb=>aN .no (short l) (k (.bool b) c)
noncomputable def sR (vs:List ael)(i:Nat):Bool:=match vs[i]? with
 |some (.bool b)=>b
 |_=>false
theorem Po{f:Nat->Bool}:(af2 (n+1)).all f=(f 0&&(af2 n).all λi=>f (i+1)):=by
 rw[List.range_succ_eq_map,ahR,List.all_map];rfl
theorem Qm (h:ah T α N vs l):∀ {b:Bool},boolsOf l=some b->(∀ v∈vs,∃ q,v=.bool q)/\(af2 vs.length).all (sR vs)=b:=ah.ind (P:=λvs l=>∀ {b:Bool},boolsOf l=some b->(∀ v∈vs,∃ q,v=.bool q)/\(af2 vs.length).all (sR vs)=b)
 (λh=>⟨λv d=>(nomatch d),aej h⟩)
 (fun{v a vs f}d _ A{b}e=>by
  have e:i9 none a (λq=>aD none (boolsOf f) λr=>some (and q r))=some b:=e
  refine zo d e aO λq c e=>?_
  refine Y (aR e aO) ?_;clear e;intro r W e;obtain rfl:=aej e;refine ae (A W) ?_;clear A W;intro g i;refine⟨λv d=>(aeA.mp d).elim (λe=>⟨_,e⟩) (g v),?_⟩
  rw[ajz,Po];exact congrArg (and q) i)
 (λc c c c c e=>nomatch e) (λc c c c e=>nomatch e) h
theorem UM (C:ak c) (D:aP c d A):dR c A (.builtin "all") BE:=by
 intro l T k y h W s V N E R X Z F G Q a;refine iw F G h W λqa v m h=>?_
 refine Y (aR h W) ?_;clear h;intro l n h;refine Y (aR h W) ?_;clear h;intro b p h;refine ae (aS h W) ?_;clear h W;intro hs h;refine aH (jT R n m) ?_;clear n m;intro x f j g r;subst j;refine ae (Qm r p) ?_;clear r p;intro u H;have I:x<s.heap.objs.size:=by refine Y g ?_;clear g;intro o L u_;exact aeS L
 have M:x≠s.heap.objs.size:=aeN I;refine call_all_walk (ajk g (Pr s.heap.objs.size _ _ _ _ _ (sR f) rfl (Walks.list (A:=A.in1) D.handled s.heap.objs.size x M f.toArray) ⟨(dJ _ (aeJ _ rfl) rfl rfl),g.at λo e=>aeq _ e⟩ ?_ ?_))
 ·intro i v s Q E w a;have B:f[i]?=some v:=afx.symm.trans w;refine aL (u v (aeV B)) ?_;clear u w;intro q j;subst j;have e:sR f i=q:=by unfold sR;rw[B]
  rw[e]at a;exact afW a
 ·intro h' P S;rw[afi,H];refine a _ _ _ _ _ _ h (R.ext C (t:=P) λb o q=>S b o (λz=>?_) (aeq _ q)) .refl (.bool _)
  have:=aev.mp z;exact absurd (aeS q) (by rw[this];exact afG _)
noncomputable def Ac:Prim:=λl c k=>ow l λa b=>afM .no a λx=>afM .no b λy=>k (.bool (0+y.length<=x.length&&Builtin.Str.subAt x y 0)) c
theorem Qn:dR c A (.builtin "str.startswith") Ac:=by
 intro l m k y h d s n N E R o p e f Q g;refine pX e f h d λa b v w i j h=>gE i h d λx t W W h=>gE j h d λq r W W h=>?_
 exact call_gives ajc (typeIs_str s _ _) PySem.F.entry_str_startswith (PySem.F.args_str_startswith_2 _ _) (gives_str_startswith _ _ _ _) (g _ _ _ _ _ _ h R .refl (.bool _))
noncomputable def xt (x:Str) (l:List Str):Nat:=aeL (motive:=λd=>Nat) (nat_lit 0) (λa d c=>aex c (afk c) (seq a x)) l
theorem UN (h:StrsAre vs a):vs.countP (aiG x)=xt x a:=by
 induction h with
 |nil=>rfl
 |cons y t h c=>
  rw[List.countP_cons,c];show _=(aex (xt x _) (afk (xt x _)) (seq y x):Nat);rw[show aiG x (.str y t)=seq y x from seq_eq.symm]
  cases seq y x<;>rfl
noncomputable def Av:Prim:=λl c k=>ow l λa b=>cF .no a λl=>afM .no b λx=>aD .no (strsOf l) λd=>k (.int (afB (xt x d))) c
noncomputable def AU(_:Tr)(v:O):Bool:=cF false v λc=>true
theorem SH (h:AU σ.st v=true) (R:SR c σ s α N) (f:VR W.kt α N val v):s.TypeIs val "tuple" /\∀ a,val=.ref a->∃ o,s.heap.get? a=some o/\o.dict=none:=by
 refine Y (dP h nofun) ?_;clear h;intro l g j;subst g;rcases f.inv with⟨a,o,i,n,rfl,d,_,A,_⟩|⟨a,i,n,k,rfl,b,_⟩
 ·exact⟨(ay _ (R.get d) A.1),λa e=>by cases e;exact (ay _ (R.get d) A.2)⟩
 ·exact⟨(ay _ (R.aZ _ _ b) rfl),λa e=>by cases e;exact (ay _ (R.aZ _ _ b) rfl)⟩
theorem Q8:dR c A (.builtin "tuple.count") Av:=by
 intro l P k y h d s S N E R q T u B Q C;refine pX u B h d λa b v w i D h=>?_
 refine Y (dP h d) ?_;clear h q;intro l W h;subst W;refine gE D h d λx t F F h=>?_
 refine Y (aR h d) ?_;clear h d;intro V j h;refine aH (eY R i) ?_;clear i;intro a e W m r;subst W;refine ae (Ex r j) ?_;clear r j;intro o X;refine kU m ?_;clear m;intro W p f n g;obtain⟨G,H,I,L⟩:=W;have f:G=_:=f;have g:I=_:=g;subst f g;refine aif ajA (ay _ p rfl) PySem.F.entry_tuple_count (PySem.F.args_tuple_count_2 _ _) (PySem.SeqAt.tuple_countAt a e.toArray n H L _ (aiG _)) (bH p (λz M=>(eq_isStrOf _ _ o z (List.mem_toArray.mp M)).at _ _) ?_)
 rw[show e.toArray.toList=e from rfl,UN o];exact C _ _ _ _ _ _ h R.toks .refl (.int _ _)
noncomputable def wy:Prim:=λl c k=>ow l λa b=>afM .no a λd=>cF .no b λl=>iS .no l λe=>afM .no e λx=>k (.str x) c
theorem SI:dR c A (.builtin "str.join") wy:=by
 intro l H k y h W s I N E R L M m p Q q;refine pX m p h W λa b v w z f h=>gE z h W λg t P S h=>?_
 refine Y (dP h W) ?_;clear h;intro l d;subst d;intro h;refine Y (jc h W) ?_;clear h;intro e d;subst d;intro h;refine Y (gD h W) ?_;clear h W;intro x d;subst d;intro h;refine aH (eY R f) ?_;clear f;intro a T d;subst d;intro B r;refine Y (kT r rfl) ?_;clear r;intro u d;subst d;intro i;refine Y i.inv ?_;clear i;intro C d;subst d;intro D;refine afU ajO (typeIs_str s _ _) PySem.F.entry_str_join ?_ (PySem.F.args_str_join_2 _ _);refine aL (join_tree g t a) λV e=>?_
 rw [e];refine kU B λo j F n G=>?_
 refine aek (aiD (ay o j F) ?_);rw [if_pos (by decide)]
 refine aek (agm j G ?_);show aeO _ _ (joinTail g [Value.str x C]) _ _ s;unfold joinTail;dsimp only;rw [if_pos (by rfl)]
 exact aek (ahs (aey (ay _ rfl (q _ _ _ _ _ _ h R .refl (.str _ D)))))
noncomputable def LI (i:Int):Option Str:=afF (motive:=λc=>Option Str) i (λn=>dO (aeZ n (nat_lit 5)) (some ⟨#[ahT (nat_lit 48) n]⟩)) λc=>none
theorem SJ:∀ n,n<6->agE (toString (afB n))=⟨#[ahT (nat_lit 48) n]⟩/\(afB n).natAbs.log2<1920/\afp ⟨#[ahT (nat_lit 48) n]⟩=true:=by decide +kernel
theorem UO (h:LI i=some x):agE (toString i)=x/\i.natAbs.log2<1920/\afp x=true:=by
 induction i using afF with
 |ofNat n=> refine ae (fR h) ?_;clear h;intro c h;obtain rfl:=aej h;exact SJ n (ahw (aer c))
 |negSucc=>exact aT h
noncomputable def mX:Prim:=λl c k=>hU l λa=>dU (afM .no a λx=>k (.str x) c) a λi=>aD .no (LI i) λx=>k (.str x) c
theorem UP:dR c A (.type "str") mX:=by
 intro l q k y h d s r N E R u w f g Q b;refine iw f g h d λa v W h=>?_
 rcases EN h with h|⟨i,rfl,h⟩
 ·exact gE W h d λx t z j h=>PySem.P.str_of_str (b _ _ _ _ _ _ h R .refl (.str _ j))
 ·refine Y (aR h d) ?_;clear h d;intro x e h;refine bU (UO e) ?_;clear e;intro m n o;refine aL W.inv ?_;clear W;intro t p;subst p;refine PySem.P.str_of_int n ?_;rw[m];exact b _ _ _ _ _ _ h R.toks .refl (.str _ o)
noncomputable def Wq (v:O):Option Bool:=afM (j4 (cF none v λc=>some true) v (some false)) v λc=>some false
noncomputable def sS (x:Ev):Ev:=λc k=>x c λv c=>aD .no (Wq v) λb=>k (.bool b) c
theorem Q9 (o:ak c){t u pos:Pos}{n w:Nat}{x:aeM}{p}(q:aeH x=false) (z:c.scope.names[n]?=some (("isinstance" :Str),ae5)) (B:c.scope.names[w]?=some (("tuple" :Str),ae5)) (a:W.G.boot "isinstance" =true) (C:W.G.boot "tuple" =true) (D:aE c A x p): aE c A (.Call (.Name "isinstance" t) [x,.Name "tuple" u] [] pos) (sS p):=by
 intro F k y h j s G N E R H Q l;refine Call_ (jY (v:=.builtin "isinstance") o z (by decide) a (by decide +kernel) R ?_)
 refine eM (P:=λg=>True) (by rw [afA,q];rfl) (λS g=>(ay _ (.inr (.inl rfl)) (af4 rfl))) ?_
 refine agq (D F _ y h j s G N E R H _ λI T val V X Z h f m i=>?_) (fz q)
 refine agq (jY (v:=.type "tuple") o B (by decide) C (by decide +kernel) f ?_) (fz rfl)
 refine ahf ⟨trivial,?_⟩;refine Y (aR h j) ?_;clear h j;intro b a h;rcases EM a with a|⟨x,rfl,a⟩
 ·by_cases e:some b=cF none I λg=>some true
  ·refine Y (dP e.symm aO) ?_;clear e;intro qa d e;subst d;obtain rfl:=aej e;refine aH (eY f i) ?_;intro qb vs d r qc;subst d;refine cK r ?_;clear r;intro qd L M g;exact IsiPair.tuple_tuple L M (l _ _ _ _ _ _ h f m (.bool _))
  ·refine ae (nL a e) ?_;clear a e;intro d a;subst d;obtain rfl:=aej a;rw [show val=.none from i.inv];exact IsiPair.NoneType_tuple (l _ _ _ _ _ _ h f.toks m (.bool _))
 ·obtain rfl:=aej a;refine Y i.inv ?_;clear i;intro qe d g;subst d;exact IsiPair.str_tuple (l _ _ _ _ _ _ h f.toks m (.bool _))
noncomputable def Aw:Prim:=λl c k=>ow l λa b=>Hc .no a λC=>qu .no b λD=>aN .no (aew C D) (k (.bool true) c)
theorem Ez:dR c A (.builtin "isinstance") Aw:=by
 intro l r k y h W s t N E R u x g i Q j;refine pX g i h W λa b v w f m h=>?_
 refine Y (RZ h W) ?_;clear h;intro C d h;subst d;refine Y (vu h W) ?_;clear h;intro D d h;subst d;refine ae (aS h W) λe n=>?_
 obtain rfl:=aem e;rw[show w=.ref C from m.inv];refine eJ f.inv ?_;clear f;intro a o d p z q;subst d;refine call_isinstance_of ?_ (by intro e;contradiction)
 unfold Builtin.«isinstance.nested»;refine aek (aek (ajp (R.get p) (aey ?_)));rw[q];rw[if_pos (by simp)]
 refine aek (ahs (aek (aey ?_)));exact aey (j _ _ _ _ _ _ n R .refl (.bool _))
noncomputable def Nz (t:Tc) (b:Sc) (n:Nat):LS->(LS->Rs)->Kv->Rs:=af6 (motive:=λd=>LS->(LS->Rs)->Kv->Rs) (λd d d=>.no) (λd W c kn A=>t c λq c=>aex (kn c) (b c (λc=>W c kn A) A) q) n
noncomputable def n8 (t:Tc)(b:Sc):Sc:=Nz t b (nat_lit 60)
theorem Ra (x:ak c) (z:c.comp=none) (B:aP c d A) (C:dB c A D t) (F:cA c A body k):bQ c A (.While D body [] pos) (n8 t k):=by
 intro l kn G y h b s m N E R H Q I L;refine wpAny_While ?_;refine codeAny_whileLoop (λn o=>∃ W e f,SR c W o e f/\Sts l m N W e f/\Nz t k n W kn G=y) ?_ (nat_lit 60) (dy l m N R .refl h)
 rintro n o⟨W,e,f,M,g,h⟩;induction n using aeI with
 |zero=>exact bO h b
 |succ n=>
  have p:=(H.step g.kp).loop x z B;refine C W _ y h b _ _ _ _ M p _ λq T V X Z h r a=>?_
  induction q using aen with
  |false=>
   rw [if_neg (by decide)]
   exact ahq (I _ _ _ _ h r (g.trans a.toSts))
  |true=>
   rw [if_pos rfl];refine F _ _ _ _ h b _ _ _ _ r (p.step a.kp) _ (λu P v w h i j=>?_) λqa u qb P v w h i j S=>?_
   ·exact (QI n (agy n) u v w i ((g.trans a.toSts).trans j) h)
   ·exact L _ _ _ _ _ _ h i ((g.trans a.toSts).trans j) S
noncomputable def oP (n:Nat):Nat->List O:=af6 (motive:=λc=>Nat->List O) (λc=>[]) (λc d i=>.int (afB i)::d (afk i)) n
theorem sm:∀ {n i:Nat},(oP n i).length=n
 |0,a=>rfl
 |n+1,i=>congrArg (·+1) (sm (n:=n) (i:=i+1))
theorem Ad:∀ {n i j:Nat}{a:O},(oP n i)[j]?=some a->a=.int ((i+j:Nat):Int)
 |0,i,j,a,h=>nomatch (show ([]:List O)[j]?=some a from h)
 |n+1,i,0,a,h=>by have b:=aej h;clear h;subst a;rfl
 |n+1,i,j+1,a,h=>by have c:(oP n (i+1))[j]?=some a:=h;rw[Ad c,show i+1+j=i+(j+1)by omega]
theorem EA{I:aez}{x a step:Int}{E:ael->aep->Prop}{v:ael}{Q:Unit->aep->Prop}{s:aep}(b:IsRangeIter s.heap I x a step) (h:Q () s): WP W A (agY target (.ref I) v) Q E s:=by
 unfold agY;induction target using afK<;>first
  |exact aey h
  |(induction v using afo<;>first
   |exact aey h
   |exact aek (ajp b (aey h)))
noncomputable def qJ (a:Tg) (e:Ev) (b:Sc):Sc:=λc kn d=>e c λv c=>dU .no v λi=>afF (motive:=λA=>Rs) i (λn=>aN .no (aeZ n (nat_lit 1000)) (ey a b (oP n (nat_lit 0)) c kn d)) λA=>.no
theorem Ee (a:ak c) {σ:LS} {s:aep} (R:SR c σ s α N) {n:Nat} {t:Tok} (g:n<=1000) {Q:ael->aep->Prop} {E}
  (k:∀ (I:aez) (h':afm) (tk:Nat),SR c σ {s with heap:=h',toks:=tk} α N->(∀ b o,s.heap.get? b=some o->h'.get? b=some o)->(∃ o,h'.get? I=some o)->s.heap.objs.size<=I->IsRangeIter h' I (0+((0:Nat):Int)*1) ((n:Int)-((0:Nat):Int)) 1->Q (.ref I) {s with heap:=h',toks:=tk}):
  WP W A (call (.type "range") [.int (n:Int) t]) (λx f=>WP W A (aiC x) Q E f) E s:=by
 refine call_range_1 ?_
 refine wpAny_pyIter_range (IsRange.new ..) (small_one (by decide) (by decide) (by omega) (by omega)) ?_
 have d:∀ b o,s.heap.get? b=some o->((s.heap.push {cls:=.type "range",data:=.fields #[.int 0 s.toks,.int n t,.int 1 (s.toks+1)]}).push {cls:=.type "range_iterator",data:=.fields #[aff 0,aff (ajI 0 n 1),aff 1]}).get? b=some o:=λb o q=>aeq _ (aeq _ q)
 refine k _ _ _ (R.ext a (t:=s.toks+1+1) d) d ⟨_,aeJ _ rfl⟩ (by rw [af9];exact af7 _) ?_
 have e:ajI 0 (n:Int) 1=(n:Int)-((0:Nat):Int):=by
  rw [rangeSize_one]
  split<;>omega
 rw [←e]
 exact aeJ _ rfl
theorem SK (k:ak c) (L:c.comp=none) (u:aP c d A){target e:aeM}{body:List afD}{N S pos:Pos}{T:Nat}{m:Tg}{x:Ev}{o:Sc}(z:aeH e=false) (V:c.scope.names[T]?=some (("range" :Str),ae5)) (a:W.G.boot "range" =true)
  (X:aE c A e x) (Z:∀ M,(∀ p∈c.ax,p∈M)->kc (c.with M) A target m) (ij:∀ M,(∀ p∈c.ax,p∈M)->cA (c.with M) A body o):
  bQ c A (.For target (.Call (.Name "range" N) [e] [] S) body [] pos) (qJ m x o):=by
 intro σ kn kr y h f s α qa E R l Q cX cY
 refine wpAny_For ?_ (pU rfl c.env)
 refine Call_ (jY (v:=.type "range") k V (by decide) a (by decide +kernel) R ?_)
 refine eM (P:=λB=>True) (by rw [afA,z];rfl) (λC B=>(ay _ (.inr (.inl rfl)) (af4 rfl))) ?_
 refine agq (X σ _ y h f s α qa E R l _ λD dk val dn cL bZ h F q hv=>?_) (fz z)
 refine ahf ⟨trivial,?_⟩
 have Yd:=l.step q.kp
 have AW:=cX.step q.toSts
 have Ye:=cY.step q.toSts
 refine i4 hv h f λg t B h=>?_
 induction g using afF with
 |negSucc=>exact bO h f
 |ofNat j=>
  refine ae (aS (show aN .no (aeZ j 1000) (ey m o (oP j 0) dk kn kr)=y from h) f) ?_;clear h;intro r h
  have r:j<=1000:=aer r
  refine Ee k F r λI h' tk cw hk G f5 hit=>?_
  have KT:=agz (target:=target) (Walks.range (prog:=W.prog) (w:=W.w) (A:=A) u.handled I 0 1 j) λg D s Q E st qb=>EA (W:=W) st qb
  rw [←sm (n:=j) (i:=0)] at KT
  refine aL G ?_;clear G;intro qc ho
  have bW:=F.own k (own:=[(I,qc)]) (t:=tk) hk (λp C=>by rw [aev.mp C];exact ⟨ho,f5⟩) (by simp)
  refine sj k L u KT ij bW (by simpa [sm] using hit) (λb a=>by simpa using a) (λg h st b a=>?_) (λb a=>.inl (by simpa using a)) (λM hM g D qd bu s' bG N' ha H R' qe qf y h f E l Q hQ=>?_) h f Yd AW Ye
  ·have ig:b=I:=by simpa using a
   subst ig
   exact ⟨_,st⟩
  ·refine aL H ?_;clear H;intro t' bj;subst bj
   have e:=Ad ha
   subst e
   rw [show (0:Int)+(g:Int)*1=((0+g:Nat):Int) by omega]
   exact Z M hM _ _ _ _ h f _ _ _ _ _ R' l (.int _ _) Q hQ
end
open PySem.AutoSeq1 (wpAny_loadPart')
section
variable{prog:ae9}{w:afq}{A:ae6}{E:ael->aep->Prop}{s:aep}
theorem O4 {Q:ael->aep->Prop}(d:s.heap.IsTupleIter a t i) (e:s.heap.IsTuple t f) (g:f[i]?=some x) (h:∀ h',h'.IsTupleIter a t (i+1)->aiE a s.heap h'->Q x {s with heap:=h'}):aeO (aeR prog w) A (afE (.ref a)) Q E s:=by
 refine cK (id d) λo c j b=>?_
 refine kU e ?_;clear e;intro m k p n l;unfold afE;refine aek (afR (name:=agE "__next__") d.typeIs ag5 (afU ag5 d.typeIs ajd ?_ (ai1 _)));show aeO _ _ (field (.ref a) 0 >>=_) _ _ s;refine aek (afc c b (x:=.ref t) rfl ?_);show aeO _ _ (if (afr t ==agl)=true then _ else _) _ _ s;rw[if_neg (show ¬ ((afr t ==agl)=true) from aeY)];show aeO _ _ (field (.ref a) 1 >>=_) _ _ s;refine aek (afc c b (x:=.int i 0) rfl ?_);show aeO _ _ (seqItems? (.ref t) >>=_) _ _ s;refine aek (agm k l ?_);simp only[ajl,g];refine aek (ahc c b (by simp) (aey (ay x rfl (aey (h _ ?_ (agr ..))))))
 exact (dJ _ (agd _ c (ahB (agi b _))) ((Obj.cls_mapFields ..).trans j) (by rw[agi b];simp[aff]))
theorem Pc {Q:ael->aep->Prop}(g:A.handled=none) (c:s.heap.IsTupleIter b t i) (h:s.heap.IsTuple t j) (k:j[i]?=none) (l:∀ h' e,ai5 b s.heap h'->(∃ o,h'.get? e=some o/\o.cls=.type "StopIteration")->E (.ref e) {s with heap:=h'}):aeO (aeR prog w) A (afE (.ref b)) Q E s:=by
 refine cK (id c) λo d r f=>?_
 refine kU h ?_;clear h;intro u p v n q
 unfold afE
 refine aek (afR (name:=agE "__next__") c.typeIs ag5 (afU ag5 c.typeIs ajd ?_ (ai1 _)))
 show aeO _ _ (field (.ref b) 0 >>=_) _ _ s
 refine aek (afc d f (x:=.ref t) rfl ?_)
 show aeO _ _ (if (afr t ==agl)=true then _ else _) _ _ s
 rw [if_neg (show ¬ ((afr t ==agl)=true) from aeY)]
 show aeO _ _ (field (.ref b) 1 >>=_) _ _ s
 refine aek (afc d f (x:=.int i 0) rfl ?_)
 show aeO _ _ (seqItems? (.ref t) >>=_) _ _ s
 refine aek (agm p q ?_)
 simp only [ajl,k]
 refine aek (ahs (aek (ahc d f (by simp) ?_)))
 show aeO _ _ (newExc (.type "StopIteration") [] >>=_) _ _ _
 refine aek ?_
 simp only [newExc,newTuple]
 refine aek (afQ ?_ (by size_fits))
 refine aek (m:=ai2 _ _) (agT (a:=agl) (by first|rfl|(simp only [ai2];rfl)) ?_)
 refine afQ ?_ (by size_fits)
 simp only [raiseNew]
 refine aek (wpAny_handled ?_)
 first|rw [show A.in1.handled=none from g]|rw [g]
 refine aek (aey (wpAny_throw ?_))
 exact l _ _ (((agr ..).extBut.push _).push _) (ay _ (aeJ _ rfl) rfl)
theorem pO (j:A.handled=none) (a t:aez) (k:t≠a) (c:Array ael): ahK prog w A a [a,t] c.size (λi v=>c[i]?=some v) (λi h=>h.IsTupleIter a t i/\h.IsTuple t c) where
 live:=λb b st=>(Y (st.1) λo l b=>⟨o,l⟩)
 frame:=λb b b st d=>⟨st.1.at λo e=>d a (by simp) o e,st.2.at λo e=>d t (by simp) o e⟩
 item:=λi s Q E f st m=>O4 st.1 st.2 (x:=c[i]) (by simp [f]) λn p g=>m _ n s.toks (by simp [f]) ⟨p,st.2.extBut g.extBut k⟩ g
 done:=λs Q E st q=>Pc j st.1 st.2 (by simp) q
theorem Pd (t:aez) (b:Array ael) (n:Nat) (e:Option aez) (sl:Array (Option ael)):
  Meets (Builtin.«enumerate.__new__» ⟨[.type "enumerate",.ref t],[]⟩) (λj R s=>s.heap.get? t=some {cls:=.type "tuple",dict:=e,data:=.seq b n,slots:=sl}/\
   R (.ok (.ret (.ref (s.heap.push {cls:=.type "tuple_iterator",data:=.fields #[.ref t,.int 0 0]}).objs.size)))
    {s with heap:=(s.heap.push {cls:=.type "tuple_iterator",data:=.fields #[.ref t,.int 0 0]}).push {cls:=.type "enumerate",data:=.fields #[.none,.bool false,.ref s.heap.objs.size,aff 0,.none,.none]}}):=
 .of_wp λprog w A R s h=>by
  obtain ⟨f,g,d,i,os⟩:=s;refine ae h ?_;clear h;intro E h;have k:=sub_enumerate;have a:Heap.IsTuple (Shared.heap ⟨f,g,d,i,os⟩) t b:=(fC _ E rfl n rfl);wp_walk using aiH E;refine wpAny_stack_any λst=>aey ?_
  split
  ·rename_i c _ _ _ _ _
   cases (c ==agF "enumerate")
   ·wp_walk using aiH E,agj a;exact (ay _ rfl h)
   ·wp_walk using aiH E,agj a;exact (ay _ rfl h)
  ·wp_walk using aiH E,agj a;exact (ay _ rfl h)
theorem Pj {Q:ael->aep->Prop}(f:s.heap.IsTuple t g)
  (h:∀ h',IsEnum h' (s.heap.objs.size+1) s.heap.objs.size 0 .none->h'.IsTupleIter s.heap.objs.size t 0->h'.objs.size=s.heap.objs.size+2->(∀ b o,s.heap.get? b=some o->h'.get? b=some o)->Q (.ref (s.heap.objs.size+1)) {s with heap:=h'}):
  aeO (aeR prog w) A (call (.type "enumerate") [.ref t]) Q E s:=by
 refine kU f ?_;clear f;intro j k a n d;obtain ⟨c,l,dt,m⟩:=j
 replace a:c=.type "tuple" :=a
 replace d:dt=.seq g n:=d
 subst a d
 refine callType_new F.called_enumerate (by decide) (F.typeCall_enumerate_1 _) (F.newCall_enumerate_1 _) (λp=>F.args_object_init_2 p _) F.entry_enumerate_new (Pd t g n l m) ⟨k,?_⟩
 have e:(s.heap.push {cls:=.type "tuple_iterator",data:=.fields #[.ref t,.int 0 0]}).objs.size=s.heap.objs.size+1:=af9 ..
 show _/\_
 rw [e]
 have i:IsEnum ((s.heap.push {cls:=.type "tuple_iterator",data:=.fields #[.ref t,.int 0 0]}).push {cls:=.type "enumerate",data:=.fields #[.none,.bool false,.ref s.heap.objs.size,aff 0,.none,.none]}) (s.heap.objs.size+1) s.heap.objs.size 0 .none:=by
  have:=aeJ (s.heap.push {cls:=.type "tuple_iterator",data:=.fields #[.ref t,.int 0 0]}) (o:={cls:=.type "enumerate",data:=.fields #[.none,.bool false,.ref s.heap.objs.size,aff 0,.none,.none]}) rfl
  rw [e]at this;exact this
 exact ⟨(ay _ i rfl),h _ i (dJ _ (aeq _ (aeJ _ rfl)) rfl rfl) (by rw [af9,e]) λb o x=>aeq _ (aeq _ x)⟩
end
open PySem.AutoSeq1 (wpAny_loadPart')
structure lP(z TI TO i1 i2:aez)(fM fN:List aez):Prop where
 TIz:TI≠z
 TOz:TO≠z
 TITO:TI≠TO
 z1:z∉fM
 z2:z∉fN
 CI:TO∉fM
 CJ:TO∉fN
 CK:TI∉fM
 CL:TI∉fN
 pn:i1∈fM
 rE:i2∈fN
 i12:i1∉fN
 i21:i2∉fM
section
variable{prog:ae9}{w:afq}{A:ae6}{E:ael->aep->Prop}{s:aep}{z TI TO i1 i2:aez}{fM fN:List aez}{n1 n2:Nat}{P1 P2:Nat->ael->Prop}{gX gY:Nat->afm->Prop}
theorem i0{l:List aez}(h:a∉l)(h':b∈l):a≠b:=λe=>h (e▸h')
theorem iB{P:Nat->ael->Prop}{St:Nat->afm->Prop}(D:ahK prog w A f a n P St)(st:St i h)(c:aiE x h h')(d:x∉a):St i h':=
 D.frame _ _ _ st λb s o e=>(c.2 b (λq=>d (q▸s))).trans e
theorem SM (g:ahK prog w A i1 fM n1 P1 gX) (h:ahK prog w A i2 fN n2 P2 gY) (Z:lP z TI TO i1 i2 fM fN) {a b:ael}{Q:ael->aep->Prop} (i:agZ s.heap z TI TO .none) (W:afL s.heap TI (.ref i1) (.ref i2)) (X:afL s.heap TO a b) (h1:gX k s.heap) (h2:gY k s.heap) (rF:k<n1) (jz:k<n2) (hQ:∀ h' tk x y,P1 k x->P2 k y->agZ h' z TI TO (aff s.heap.objs.size)->afL h' TO x y->gX (k+1) h'->gY (k+1) h'->afL h' s.heap.objs.size x y-> (∀ c o,c≠z->c≠TO->c≠i1->c≠i2->s.heap.get? c=some o->h'.get? c=some o)->Q (.ref s.heap.objs.size) {s with heap:=h',toks:=tk}): aeO (aeR prog w) A (Builtin.«zip.__next__» ⟨[.ref z],[]⟩) (λfin s'=>∃ v,fin=.done (.ret v)/\Q v s') E s:=by
 have i1z:z≠i1:=i0 Z.z1 Z.pn;have i2z:z≠i2:=i0 Z.z2 Z.rE;have TOi1:TO≠i1:=i0 Z.CI Z.pn;have TOi2:TO≠i2:=i0 Z.CJ Z.rE;have TIi1:TI≠i1:=i0 Z.CK Z.pn;have TIi2:TI≠i2:=i0 Z.CL Z.rE;have zlt:z<s.heap.objs.size:=aeS i;show aeO _ _ (field (.ref z) 2 >>=_) _ _ _;refine aek (afc i rfl (x:=.bool false) rfl ?_);show aeO _ _ (field (.ref z) 3 >>=_) _ _ _;refine aek (afc i rfl (x:=.ref TI) rfl ?_);refine aek (agm W rfl ?_);show aeO _ _ (afy (.ref z) >>=_) _ _ _;refine aek ?_;unfold afy;refine aek (afc i rfl (x:=.none) rfl (aey ?_));simp only[if_true];refine aek (ahs ?_);refine aek (afc i rfl (x:=.ref TO) rfl ?_);refine aek (agW i (by simp) λhY D j=>?_)
 replace D:agZ hY z TI TO .ellipsis:=D;refine aek ?_;simp only[List.zipIdx_cons,List.zipIdx_nil,aiI,List.forIn_nil];refine aek (aek (aji ?_));show aeO _ _ (afE (.ref i1) >>=_) _ _ _;refine aek (g.item k _ _ _ rF (iB g h1 j Z.z1) λx mY Yf hx yx l=>aey ?_)
 have M:afL mY TO a b:=l.extBut _ _ TOi1 (j.extBut _ _ Z.TOz X);refine aek (agm M rfl ?_);refine aek (wpAny_updateSeq_pair M λdN F m=>?_)
 replace F:afL dN TO x b:=F;refine aek (wpAny_letGo (aey ?_));refine aek (aek (aji ?_));show aeO _ _ (afE (.ref i2) >>=_) _ _ _;refine aek (h.item k _ _ _ jz (iB h (iB h (iB h h2 j Z.z2) l Z.i12) m Z.CJ) λy eR ad3 hy NA n=>aey ?_)
 have N:afL eR TO x b:=n.extBut _ _ TOi2 F;refine aek (agm N rfl ?_);refine aek (wpAny_updateSeq_pair N λd r p=>?_)
 replace r:afL d TO x y:=r;refine aek (wpAny_letGo (aey (aey ?_)));refine aek (agm r rfl ?_);refine aek (wpAny_newTuple ?_);have ed:d.objs.size=s.heap.objs.size:=by rw[p.1,n.1,m.1,l.1,j.1]
 have P:agZ d z TI TO .ellipsis:=p.extBut _ _ Z.TOz.symm (n.extBut _ _ i2z (m.extBut _ _ Z.TOz.symm (l.extBut _ _ i1z D)));have UQ:∀ c o,c≠z->c≠TO->c≠i1->c≠i2->s.heap.get? c=some o->d.get? c=some o:=λc o f t G H e=>p.extBut _ _ t (n.extBut _ _ H (m.extBut _ _ t (l.extBut _ _ G (j.extBut _ _ f e))))
 have s1:gX (k+1) d:=iB g (iB g (iB g yx m Z.CI) n Z.i21) p Z.CI;have s2:gY (k+1) d:=iB h NA p Z.CJ;have R:z<d.objs.size:=aeS P;show aeO _ _ (ah8 (.ref z) (.ref d.objs.size) >>=_) _ _ _;refine aek ?_;unfold ah8;have Yg:agZ (d.push {cls:=.type "tuple",data:=.seq #[x,y]}) z TI TO .ellipsis:=aeq _ P;refine aek (agW Yg (by simp) λtU I S=>?_)
 replace I:agZ tU z TI TO (aff d.objs.size):=I;refine agW I (by simp) λu B T=>?_
 replace B:agZ u z TI TO (aff d.objs.size):=B;have C:∀ c o,c≠z->d.get? c=some o->u.get? c=some o:=λc o f e=>T.extBut _ _ f (S.extBut _ _ f (aeq _ e))
 have V:afL u d.objs.size x y:=T.extBut _ _ (agu R) (S.extBut _ _ (agu R) (aeJ _ rfl));refine aey (ay _ rfl ?_);show Q (.ref d.objs.size) _;rw[ed]at B V ⊢;exact hQ u _ x y hx hy B (C _ _ Z.TOz r) (g.frame _ _ _ s1 λc L o e=>C c o (λq=>Z.z1 (q▸L)) e) (h.frame _ _ _ s2 λc L o e=>C c o (λq=>Z.z2 (q▸L)) e) V λc o f t G H e=>C c o f (UQ c o f t G H e)
theorem UR (i:ahK prog w A i1 fM n1 P1 gX) (M:ahK prog w A i2 fN n2 P2 gY) (Z:lP z TI TO i1 i2 fM fN) {a b:ael}{Q:Fin->aep->Prop} (d:agZ s.heap z TI TO .none) (v:afL s.heap TI (.ref i1) (.ref i2)) (N:afL s.heap TO a b) (y:gX k s.heap) (P:gY k s.heap) (B:k=n1) (jz:k<=n2) (C:∀ h' tk e,(∀ c o,c≠z->c≠TO->c≠i1->c≠i2->s.heap.get? c=some o->h'.get? c=some o)->(∃ o,h'.get? e=some o/\o.cls=.type "StopIteration")->E (.ref e) {s with heap:=h',toks:=tk}): aeO (aeR prog w) A (Builtin.«zip.__next__» ⟨[.ref z],[]⟩) Q E s:=by
 have D:z≠i1:=i0 Z.z1 Z.pn;show aeO _ _ (field (.ref z) 2 >>=_) _ _ _;refine aek (afc d rfl (x:=.bool false) rfl ?_);show aeO _ _ (field (.ref z) 3 >>=_) _ _ _;refine aek (afc d rfl (x:=.ref TI) rfl ?_);refine aek (agm v rfl ?_);show aeO _ _ (afy (.ref z) >>=_) _ _ _;refine aek ?_;unfold afy;refine aek (afc d rfl (x:=.none) rfl (aey ?_));simp only[if_true];refine aek (ahs ?_);refine aek (afc d rfl (x:=.ref TO) rfl ?_);refine aek (agW d (by simp) λF g j=>?_)
 replace g:agZ F z TI TO .ellipsis:=g;refine aek ?_;simp only[List.zipIdx_cons,List.zipIdx_nil,aiI,List.forIn_nil];refine aek (aek (aji ?_));show aeO _ _ (afE (.ref i1) >>=_) _ _ _;subst B;refine aek (i.done _ _ _ (iB i y j Z.z1) λG e l m=>?_)
 refine Y m ?_;clear m;intro n f p;have q:agZ G z TI TO .ellipsis:=l _ _ D g;have H:e≠z:=λh=>by subst h;rw[q]at f;have R:=aej f;clear f;subst n;simp at p
 refine agW q (by simp) λI r t=>C I s.toks e (λc o u r L r h=>t.extBut _ _ u (l _ _ L (j.extBut _ _ u h))) (ay n (t.extBut _ _ H f) p)
theorem DS (f:ahK prog w A.in1 i1 fM n1 P1 gX) (g:ahK prog w A.in1 i2 fN n2 P2 gY) (Z:lP z TI TO i1 i2 fM fN) {Q:Option ael->aep->Prop} (d:agZ s.heap z TI TO .none) (h:afL s.heap TI (.ref i1) (.ref i2)) (i:afL s.heap TO a b) (j:gX k s.heap) (l:gY k s.heap) (rF:k<n1) (jz:k<n2) (m:∀ h' tk x y,P1 k x->P2 k y->agZ h' z TI TO (aff s.heap.objs.size)->afL h' TO x y->gX (k+1) h'->gY (k+1) h'->afL h' s.heap.objs.size x y-> (∀ c o,c≠z->c≠TO->c≠i1->c≠i2->s.heap.get? c=some o->h'.get? c=some o)->Q (some (.ref s.heap.objs.size)) {s with heap:=h',toks:=tk}): aeO (aeR prog w) A (aiq (.ref z)) Q E s:=by
 have e:s.TypeIs (.ref z) "zip" :=(ay _ d rfl);unfold aiq;exact aek (ahS (afR (name:=agE "__next__") e aht (afU aht e ajB (SM f g Z d h i j l rF jz λh' tk x y n p q r t u v B=>aey (m h' tk x y n p q r t u v B)) (ajm _))))
theorem DU (h:ahK prog w A.in1 i1 fM n1 P1 gX) (i:ahK prog w A.in1 i2 fN n2 P2 gY) (Z:lP z TI TO i1 i2 fM fN) {Q:Option ael->aep->Prop} (d:agZ s.heap z TI TO .none) (j:afL s.heap TI (.ref i1) (.ref i2)) (l:afL s.heap TO a b) (m:gX k s.heap) (n:gY k s.heap) (p:k=n1) (jz:k<=n2) (r:∀ h' tk,(∀ c o,c≠z->c≠TO->c≠i1->c≠i2->s.heap.get? c=some o->h'.get? c=some o)->Q none {s with heap:=h',toks:=tk}):aeO (aeR prog w) A (aiq (.ref z)) Q E s:=by
 have f:s.TypeIs (.ref z) "zip" :=(ay _ d rfl);unfold aiq;refine aek (ahS (afR (name:=agE "__next__") f aht (afU aht f ajB (UR h i Z d j l m n p jz λh' tk e q g=>?_) (ajm _))))
 refine Y g ?_;clear g;intro o t u;refine aek (ait (T:= "StopIteration") (b:=true) (ay o t u) isSubtype_stop ?_);exact aey (r _ _ q)
theorem SN (u:ahK prog w A.in1 i1 fM n1 P1 gX) (B:ahK prog w A.in1 i2 fN n1 P2 gY) (Z:lP z TI TO i1 i2 fM fN){pos:Pos}:
  KTurns prog w A (.Tuple elts kk pos) z (z::TI::TO::(fM++fN)) [z,TO,i1,i2] n1
   (λi v h=>∃ T x y,v=.ref T/\P1 i x/\P2 i y/\afL h T x y)
   (λi v h=>∃ T x y a b,v=.ref T/\P1 i x/\P2 i y/\afL h T x y/\T≠z/\agZ h z TI TO (aff T)/\afL h TI (.ref i1) (.ref i2)/\afL h TO a b/\gX (i+1) h/\gY (i+1) h)
   (λi h=>∃ a b,agZ h z TI TO .none/\afL h TI (.ref i1) (.ref i2)/\afL h TO a b/\gX i h/\gY i h) where
 sub:=λb k=>by
  have I:=Z.pn;have L:=Z.rE;simp at k ⊢;rcases k with rfl|rfl|rfl|rfl
  ·exact .inl rfl
  ·exact .inr (.inr (.inl rfl))
  ·exact .inr (.inr (.inr (.inl I)))
  ·exact .inr (.inr (.inr (.inr L)))
 frame:=λi h l st f=>by
  refine kJ st ?_;clear st;intro a b m n r g j;exact (vA a b (f z (by simp) _ m) (f TI (by simp) _ n) (f TO (by simp) _ r) (u.frame _ _ _ g λb k=>f b (by simp [k])) (B.frame _ _ _ j λb k=>f b (by simp [k])))
 item:=λi s Q E G st t=>by
  refine kJ st ?_;clear st;intro a b m n r g j;refine DS u B Z m n r g j G G λl C x y D F M N P R S f=>?_
  have V:TI≠i1:=i0 Z.CK Z.pn;have W:TI≠i2:=i0 Z.CL Z.rE;exact t _ l C (O9 _ x y x y rfl D F S (agu (aeS m)) M (f _ _ Z.TIz Z.TITO V W n) N P R) λc o d e=>f c o (λq=>d (by simp [q])) (λq=>d (by simp [q])) (λq=>d (by simp [q])) (λq=>d (by simp [q])) e
 go:=λi v s Q E H t=>by
  refine O7 H ?_;clear H;intro T x y a b X D F hp eT hz CM CN g j;subst X;refine wpAny_letOwnedTupleGo_zip hz λl hz' p=>?_
  exact t l (l8 T x y rfl D F (p.extBut _ _ eT hp)) (vA a b hz' (p.extBut _ _ Z.TIz CM) (p.extBut _ _ Z.TOz CN) (iB u g p Z.z1) (iB B j p Z.z2)) λc o d e=>p.extBut _ _ (λq=>d (by simp [q])) e
 done:=λs Q E st t=>by
  refine kJ st ?_;clear st;intro a b m n r g j;exact DU u B Z m n r g j rfl (aeD _) λl C f=>t l C λc o d e=>f c o (λq=>d (by simp [q])) (λq=>d (by simp [q])) (λq=>d (by simp [q])) (λq=>d (by simp [q])) e
end
theorem Px{R:aip->aep->Prop}(I:Nat->aep->Prop)
  (B:∀ n s,I n s->aeO (aeR prog w) A (aiq g) (λr i=>match r with
   |none=>R (.ok .next) i
   |some v=>aeO (aeR prog w) A (agY target g v) (λa k=>aeO (aeR prog w) A (aio target env v) (λa l=>
    aeO (aeR prog w) A (forIn o true λc r=>if r=true then do let f←isTrue c env (eval c env);pure (ahu f) else pure (ahu r)) (λf j=>
     if f=true then aeO (aeR prog w) A (eval p env) (λx q=>
      aeO (aeR prog w) A (call (.builtin "list.append") [t,x]) (λa u=>∃ m,m<n/\I m u) (aix (aeR prog w) A env λe b=>R (.error e) b) q) (aix (aeR prog w) A env λe b=>R (.error e) b) j
     else ∃ m,m<n/\I m j) (aix (aeR prog w) A env λe b=>R (.error e) b) l) (aix (aeR prog w) A env λe b=>R (.error e) b) k) (aix (aeR prog w) A env λe b=>R (.error e) b) i) (aix (aeR prog w) A env λe b=>R (.error e) b) s)
  (n:Nat) (h:I n s):agk (aeR prog w) A (.compLoop (.ListComp p [⟨target,C,o,0⟩] scope pos) 0 g t env) R s:=by
 refine codeAny_loop rfl I (λn s D=>?_) n h
 show aeO _ A ((compTurn (.ListComp p [⟨target,C,o,0⟩] scope pos) 0 g t env).onRaise (λx=>do noteFrame x env;theTreesLotGoes x)) _ _ s
 refine wpAny_noted ?_;rw [compTurn_list];refine aek (ahO (aek (afN (B n s D) (λr i y=>?_) λa a d=>d)))
 induction r using aeB with
 |none=>exact aey y
 |some v=>
  refine aek (afN y (λa k E=>?_) λa a d=>d)
  refine aek (afN E (λa l F=>aek (afN F (λf j z=>?_) λa a d=>d)) λa a d=>d)
  induction f using aen with
  |false=>exact aey ⟨rfl,z⟩
  |true=>exact aek (aek (afN z (λx q G=>aek (afN G (λa u H=>aey (aey ⟨rfl,H⟩)) λa a d=>d)) λa a d=>d))
noncomputable def gQ (cells:List (Str×aez)):List (Str×afv)->List (Str×aez)->List (Str×aez)
 |[],cs=>cs
 |(x,k)::r,cs=>gQ cells r (if (k ==.free)=true then (match cells.lookup x with|some a=>(x,a)::cs|none=>cs)else cs)
theorem DW (h:∀ x,(x,af5)∈scope.names->∃ a,env.cells.lookup x=some a):ajq scope env=pure (gQ env.cells scope.names []):=by
 have key:∀ (l:List (Str×afv)) (b:List (Str×aez)),(∀ x,(x,af5)∈l->∃ a,env.cells.lookup x=some a)->
   (forIn l b λ(p:Str×afv) (r:List (Str×aez))=>(if (p.2 ==.free)=true then do let a←cellOf env p.1;pure (ahu ((p.1,a)::r)) else pure (ahu r):Sem (ForInStep (List (Str×aez)))))=pure (gQ env.cells l b):=by
  intro l;induction l with
  |nil=>intro b _;rfl
  |cons p l d=>
   intro b h;obtain⟨x,k⟩:=p;rw [aiI];unfold gQ;by_cases q:(k ==af5)=true
   ·have f:k=.free:=by simpa using q
    refine aL (h x (f▸.head _)) ?_;clear f;intro a g;simp only [q,if_true,g];have e:cellOf env x=pure a:=by unfold cellOf;rw [g]
    rw [e];simp only [pure_bind];exact d _ λy c=>h y (.tail _ c)
   ·simp only [q,if_false,pure_bind,ahv];exact d _ λy c=>h y (.tail _ c)
 unfold ajq;have e:=key scope.names [] h;simp only [bind_pure];exact e
theorem D8:∀ {cs:List (Str×aez)},(l.map (·.1)).Nodup->(x∈l.map (·.1)->cs.lookup x=none)->(∀ a,cells.lookup x=some a->(x,af5)∈l->(gQ cells l cs).lookup x=some a)/\(x∉l.map (·.1)->(gQ cells l cs).lookup x=cs.lookup x):=by
 induction l with
 |nil=>intro cs r s;exact⟨λa n h=>absurd h ahj,λn=>rfl⟩
 |cons y l j=>
  obtain⟨y,k⟩:=y;intro cs b o;rw[aeU,ae3]at b;unfold gQ;by_cases e:x=y
  ·subst e;have c:x∉l.map (·.1):=b.1;refine⟨λa d g=>?_,λi=>absurd (by rw[aeU];exact .head _) i⟩
   have q:k=.free:=by
    rcases aeA.mp g with h|h
    ·exact (ae8 h).2.symm
    ·exact absurd (aeF (f:=λp:Str×afv=>p.1) h) c
   subst q;rw[(j b.2 λh=>absurd h c).2 c]
   simp only[beq_self_eq_true,if_true,d];rw[afz,beq_self_eq_true]
  ·have same:(if (k ==af5)=true then (match cells.lookup y with|some a=>(y,a)::cs|none=>cs) else cs).lookup x=cs.lookup x:=by
    split
    ·split
     ·rw[afz,beq_eq_false_iff_ne.mpr e]
     ·rfl
    ·rfl
   have m:=j (cs:=if (k ==af5)=true then (match cells.lookup y with|some a=>(y,a)::cs|none=>cs) else cs) b.2 λh=>by rw[same];exact o (by rw[aeU];exact .tail _ h)
   refine⟨λa d g=>m.1 a d ?_,λi=>?_⟩
   ·rcases aeA.mp g with h|h
    ·exact absurd (ae8 h).1 e
    ·exact h
   ·rw[m.2 λh=>i (by rw[aeU];exact .tail _ h),same]
section
variable{W:Wd}{c:Cx W}{A:ae6}{d:Nat}
inductive CT:Type where
 |one(n:Nat)|two(n m:Nat)
noncomputable def lQ{b:Type}(z:b)(l:List O)(f:O->O->b):b:=gf z l λa r=>iS z r (f a)
theorem mn{g:Type}{z y₀:g}{f:O->O->g}(h:lQ z l f=y₀) (e:y₀≠z):∃ a b,l=[a,b]/\f a b=y₀:=by
 refine be (g9 h e) ?_;clear h;intro a r c d;subst c;refine Y (jc d e) ?_;clear d e;intro b c A;subst c;exact (gJ a b rfl A)
noncomputable def CT.bind (t:CT) (a:O):Option (List (Nat×O)):=CT.casesOn (motive:=λc=>Option (List (Nat×O))) t (λn=>some [(n,a)]) λn m=>cF none a λl=>lQ none l λx y=>aN none (and x.sure y.sure) (some [(m,y),(n,x)])
noncomputable def qK (a:List (Nat×Nat)) (l:List (Nat×Nat)):Option (List (Nat×Nat)):=aeL (motive:=λc=>Option (List (Nat×Nat))) (some []) (λp c d=>aD none (lk p.2 a) λi=>aD none d λr=>some ((p.1,i)::r)) l
theorem E4:∀ {a:List (Nat×Nat)},qK b l=some a->(∀ p∈l,∃ i,lk p.2 b=some i)/\∀ j i,lk j a=some i->∃ n,(j,n)∈l/\lk n b=some i:=by
 induction l with
 |nil=>intro a h;have g:=aej h;subst a;exact⟨λp m=>(nomatch m),λj i h=>nomatch h⟩
 |cons p l d=>
  intro a h;refine Y (aR h aO) ?_;clear h;intro i A h;refine Y (aR h aO) ?_;clear h;intro r W h;have g:=aej h;subst a;refine ae (d W) ?_;clear d W;intro o f;refine⟨λq s=>(aeA.mp s).elim (λe=>e▸⟨i,A⟩) (o q),λj k c=>?_⟩
  rw[eD]at c;by_cases e:j=p.1
  ·rw[if_pos e]at c;exact (ay p.2 (e▸.head _) (aej c▸A))
  ·rw[if_neg e]at c;refine Y (f j k c) ?_;clear f c;intro n t u;exact (ay n (.tail _ t) u)
structure oQ (sc csc:afC)(rm:List (Nat×Nat)):Prop where
 all:∀ (n:Nat)x,sc.names[n]?=some (x,af5)->∃ n',(n,n')∈rm
 mem:∀ p∈rm,∃ x k,sc.names[p.1]?=some (x,af5)/\csc.names[p.2]?=some (x,k)
inductive oR (sc:afC):aeM->CT->Prop
 |one{x px n}:sc.names[n]?=some (x,NameKind.local)->oR sc (.Name x px) (.one n)
 |two{x px x' NB k pos n m}:sc.names[n]?=some (x,NameKind.local)->sc.names[m]?=some (x',NameKind.local)->n≠m->oR sc (.Tuple [.Name x px,.Name x' NB] k pos) (.two n m)
noncomputable def Cx.bA (c:Cx W)(sc:afC)(a:List (Str×aez))(C:aez)(b:Str->Option ael)(M:Led):Cx W:={c with env:=ahL sc a C c.env,comp:=some (C,b),ax:=M}
theorem vq{sc:afC}{env:Env}{n:Nat}{x:Str}{k:afv}(h:sc.names[n]?=some (x,k)):∃ a,(ag0 sc env).names[n]?=some (x,a)/\(k=.local->a=.local):=by
 unfold ag0;rw[aga,h];refine if q:_ then (ay _ (congrArg some (if_pos q)) (λe=>?_)) else (ay _ (congrArg some (if_neg q)) id)
 subst e;exact aX q
theorem DX:(ag0 sc env).names.map (·.1)=sc.names.map (·.1):=by
 unfold ag0;rw[List.map_map];refine List.map_congr_left λp c=>?_
 obtain⟨x,k⟩:=p;by_cases q:(k ==af5&&env.scope.kind ==aje&&env.kindOf x ==some ahm)=true
 ·have e:=congrArg Prod.fst (if_pos q:(if (k ==af5&&env.scope.kind ==aje&&env.kindOf x ==some ahm)=true then (x,ahm)else (x,k))=(x,ahm));exact e
 ·have e:=congrArg Prod.fst (if_neg q:(if (k ==af5&&env.scope.kind ==aje&&env.kindOf x ==some ahm)=true then (x,ahm)else (x,k))=(x,k));exact e
theorem ak.bA (h:ak c){a:Str->Option ael}(b:sc.kind=.function)(f:(sc.names.map (·.1)).Nodup)(i:∃ o,(C,o)∈M):ak (c.bA sc j C a M):=
 ⟨h.g,h.aZ,h.lim,h.below,b,h.kZ,h.frame,h.iE,h.qC,rfl,h.top,by show ((ag0 sc c.env).names.map (·.1)).Nodup;rw[DX];exact f,h.k7,h.ls,h.mU,(λe=>nomatch e),(λd A e=>by cases e;exact i),h.nq⟩
theorem aP.bA (h:aP c d A){a:Str->Option ael}:aP (c.bA sc b C a M) d A:=⟨h.frames,h.depth,h.units,h.handled⟩
theorem SR.bA{M:Led}(R:SR (c.with M) σ s α N){a b:Str->Option ael}{aK:List (Nat×Nat)}{lo:Nat}(f:lo<=σ.n) (F:Fr c.h₀ c.L s.heap a) (g:(C,e)∈M) (h:ahn e b) (i:el W (ag0 sc c.env) loc α N b) (j:gj (ag0 sc c.env) α aK k):SR (c.bA sc k C a M) ⟨loc,aK,σ.st,σ.n,lo,σ.mark⟩ s α N:=
 ⟨(QH a F rfl e b g h i),j,R.news,R.nodup,R.inj,R.obj,R.all,R.hi,R.wf,R.bD,R.len,f,R.bt,R.gens,R.os,R.aZ⟩
theorem SR.xu{a:Str->Option ael}(R:SR (c.bA sc o C a M) b s α N) (f:c.comp=none) (j:NR c σ.loc h k a) (g:Ge h k α N) (l:gj c.scope h σ.aK c.env.cells) (n:∀ i∈σ.mark,i<b.n): SR (c.with M) (back σ b) s α N/\Fr c.h₀ c.L s.heap a:=by
 refine cK R.fr λm F e W=>?_
 subst e;refine⟨⟨(ay m F ?_),l.mono g,R.news,R.nodup,R.inj,R.obj,R.all,R.hi,R.wf,R.bD,R.len,R.low,n,R.gens,R.os,R.aZ⟩,F⟩;have d:=j.mono g;unfold NR at d ⊢;rw[f]at d;have A:(c.with M).comp=none:=f;rw[A];exact d
theorem Fr.turned{m:Str->Option ael}(F:Fr a L h m){S:List aez}(f:∀ b∈S,b≠L/\a.get? b=none) (g:∀ b o,b∉S->h.get? b=some o->h'.get? b=some o):Fr a L h' m:=
 ⟨F.ns.at' λo e=>g _ o (λz=>(f _ z).1 rfl) e,λb o e=>g b o (λz=>by rw[(f _ z).2]at e;exact aT e) (F.keep b o e),F.above⟩
theorem Ax(h:lk j [(i,a)]=some v):j=i/\v=a:=by
 rw [eD]at h;by_cases q:j=i
 ·rw [if_pos q]at h;exact⟨q,(aej h).symm⟩
 ·rw [if_neg q]at h;exact aT h
theorem sT (h:lk k [(i,a),(j,b)]=some v):(k=i/\v=a)\/(k=j/\v=b):=by
 rw [eD]at h;by_cases q:k=i
 ·rw [if_pos q]at h;exact .inl ⟨q,(aej h).symm⟩
 ·rw [if_neg q]at h;exact .inr (Ax h)
theorem Rb (I:A.handled=none) {sc:afC}{env:Env}{g:List (Str×aez)}{C:aez}(L:oR sc target t) (M:sc.kind=.function) (w:(sc.names.map (·.1)).Nodup) (f:t.bind a=some loc)
  {P:Cx W}{σ:LS}{s:aep}{α N}(R:SR P σ s α N) {v:ael}(l:VR W.kt α N v a) {S:Str->Option ael}(y:s.heap.Ns C S) {Q:Unit->aep->Prop}{E:ael->aep->Prop}
  (k:∀ h' tk z,h'.Ns C z->el W (ag0 sc env) loc α N z->(∀ b o,b≠C->s.heap.get? b=some o->h'.get? b=some o)->Q () {s with heap:=h',toks:=tk}):
  WP W A (aio target (ahL sc g C env) v) Q E s:=by
 have m:((ag0 sc env).names.map (·.1)).Nodup:=by rw[DX];exact w
 have p:((ahL sc g C env).scope.kind ==ScopeKind.class ||(ahL sc g C env).scope.kind ==ScopeKind.module&&(ahL sc g C env).locals !=(ahL sc g C env).globals)=false:=by rw[show (ahL sc g C env).scope.kind=.function from M];rfl
 induction L using oR.casesOn with
 |@one x T n i=>
  refine Y (vq (env:=env) i) λk' h q=>?_
  obtain rfl:=q rfl
  have c:=aej f;subst loc
  refine ajn (ahA (eX m h) y (λh' V X=>?_) p)
  refine k h' _ _ V (λj b u=>?_) λb o d e=>(X.2 b d).trans e
  refine ae (Ax u) ?_;intro c Z;subst c;subst Z
  exact ⟨x,_,v,h,if_pos rfl,l⟩
 |@two x T B NB kk pos n qa i D d=>
  refine Y (vq (env:=env) i) λk1 h q=>?_
  obtain rfl:=q rfl
  refine Y (vq (env:=env) D) λk1' F yy=>?_
  obtain rfl:=yy rfl
  have xne:x≠B:=λe=>d (zI w i (e▸D))
  refine Y (dP f aO) ?_;clear f;intro qb c f;subst c
  refine be (mn f aO) ?_;clear f;intro b1 b2 c f;subst c
  refine ae (aS f aO) ?_;clear f;intro G f
  have c:=aej f;subst loc
  refine aH (eY R l) ?_;clear R l;intro qc vs c it r;subst c
  refine ae (aei.mp G) ?_;clear G;intro s1 s2
  refine aH (jW r (aei.mpr ⟨s1,aei.mpr ⟨s2,rfl⟩⟩)) ?_;clear r s1 s2;intro v1 v2 c CO CP;subst c
  refine assign_Tuple_tuple I it rfl rfl λh₁ Yh=>?_
  have H:∀ b o,s.heap.get? b=some o->h₁.get? b=some o:=zk Yh
  refine aek (afX (ajn (ahA (eX m h) (y.keeps H) (λly Yi AX=>?_) p)))
  refine aek (afX (ajn (ahA (eX m F) Yi (λtV Yj Yk=>?_) p)))
  refine aey (k tV _ _ Yj (λj b u=>?_) λb o d e=>(Yk.2 b d).trans ((AX.2 b d).trans (H b o e)))
  rcases sT u with ⟨rfl,rfl⟩|⟨rfl,rfl⟩
  ·exact (dy B _ v2 F (if_pos rfl) CP)
  ·exact (dy x _ v1 h ((if_neg xne).trans (if_pos rfl)) CO)
noncomputable def sy (c:Cx W) (A:ae6) (b:List aeM) (t:Tc):Prop:=∀ d k y,t d k=y->y≠.no->∀ s a N E,SR c d s a N->bS c y d a N E->∀ Q,rA c y d a N k Q->
 WP W A (forIn b true λe r=>if r=true then do let f←isTrue e c.env (eval e c.env);pure (ahu f) else pure (ahu r)) Q E s
theorem Rd:sy c A [] bo:=λW k y h a s b N E R e Q d=>wpAny_tests_nil (d _ _ _ _ _ h R .refl)
theorem Rg (h:dB c A e t):sy c A [e] t:=λd k y q W s a N E R b Q f=>wpAny_tests_one (h d k y q W s a N E R b Q f)
noncomputable def gM (t:CT) (nt:Bool) (b:List (Nat×Nat)) (h:Tc) (g:Ev) (l:List O):List O->LS->(List O->LS->Rs)->Rs:=aeL (motive:=λe=>List O->LS->(List O->LS->Rs)->Rs)
 (λd c fin=>fin d c)
 (λa e f d c fin=>ew a (λq a=>aN .no nt (aD .no (t.bind a) λW=>Rs.casesOn (motive:=λe=>Rs) (g ⟨W,b,c.st,c.n,c.n,c.mark⟩ (fW c.n)) (λv=>f (d++[.may q v]) c fin) (λe=>.no) .no)) (aD .no (t.bind a) λW=>h ⟨W,b,c.st,c.n,c.lo,c.mark⟩ λq A=>aex (f d (back c A) fin) (g ⟨W,b,A.st,A.n,A.lo,A.mark⟩ λv i=>f (d++[v]) (back c i) fin) q)) l
theorem zv (h:gM t nt b g e (.may q a::l) i σ fin=y) (f:y≠.no): ∃ loc v,nt=true/\t.bind a=some loc/\e ⟨loc,b,σ.st,σ.n,σ.n,σ.mark⟩ (fW σ.n)=.ok v/\gM t nt b g e l (i++[.may q v]) σ fin=y:=by
 refine ae (aS h f) ?_;clear h;intro d h;refine Y (aR h f) ?_;clear h;intro loc A h
 cases c:e ⟨loc,b,σ.st,σ.n,σ.n,σ.mark⟩ (fW σ.n) with
 |ok v=>rw[c]at h;exact ⟨loc,v,d,A,c,h⟩
 |_=>rw[c]at h;exact bO h f
theorem Qo (j:a.sure=true) (h:gM t nt e f g (a::l) i σ fin=y) (k:y≠.no): ∃ loc,t.bind a=some loc/\(f ⟨loc,e,σ.st,σ.n,σ.lo,σ.mark⟩ λq b=>aex (gM t nt e f g l i (back σ b) fin) (g ⟨loc,e,b.st,b.n,b.lo,b.mark⟩ λv m=>gM t nt e f g l (i++[v]) (back σ m) fin) q)=y:=by
 rcases fD a with ⟨c,v,rfl⟩|d
 ·exact aX j
 ·exact aR ((d _ _).symm.trans h) k
theorem ah.wz (h:ah T α N vs (b::l)):(b.sure=true/\∃ v e,vs=v::e/\VR T α N v b/\ah T α N e l)\/∃ c a,b=.may c a/\((T.cond c=true/\∃ v e,vs=v::e/\VR T α N v a/\ah T α N e l)\/(T.cond c=false/\ah T α N vs l)):=by
 rcases fD b with ⟨c,a,rfl⟩|A
 ·exact .inr (gJ c a rfl h.p9)
 ·have d:b.sure=true:=(show b.sure=ew b (λW W=>false) true by induction b using O.casesOn<;>rfl).trans (A _ _)
  exact .inl ⟨d,h.ck d⟩
theorem Qp (k:y≠.no):∀ {f:List O}{σ:LS},ah T α N (v::vs) l->ah T p s u f->gM t nt m n o l f σ fin=y->
  ∃ g i,ah T p s u i/\ah T α N vs g/\((∃ a,VR T α N v a/\gM t nt m n o (a::g) i σ fin=y)\/∃ q a,T.cond q=true/\VR T α N v a/\gM t nt m n o (.may q a::g) i σ fin=y):=by
 induction l with
 |nil=>exact λh c c=>nomatch h.nil_inv
 |cons b l x=>
  intro f σ h d e;rcases h.wz with⟨_,w,z,A,W,r⟩|⟨q,a,rfl,⟨j,w,z,A,W,r⟩|⟨j,r⟩⟩
  ·cases A;exact (bB l f d r (.inl (ay b W e)))
  ·cases A;exact (bB l f d r (.inr (bB _ _ j W e)))
  ·refine eJ (zv e k) ?_;clear e k;intro D B c c c C;refine x r ?_ C;have:=d.app (.no j (av:=B) .nil);rwa[agD]at this
theorem Rh (g:y≠.no):∀ {f:List O}{σ:LS},ah T α N [] l->ah T j k m f->gM t nt u v x l f σ fin=y->∃ i,ah T j k m i/\fin i σ=y:=by
 induction l with
 |nil=>exact λc d e=>⟨_,d,e⟩
 |cons b l A=>
  intro f σ h d e;rcases h.wz with⟨_,w,W,n,_,_⟩|⟨q,a,rfl,⟨_,w,W,n,_,_⟩|⟨o,r⟩⟩
  ·contradiction
  ·contradiction
  ·refine eJ (zv e g) ?_;clear e g;intro z p c c c s;refine A r ?_ s;have:=d.app (.no o (av:=p) .nil);rwa [agD] at this
theorem PT:({cls:=.type "list",data:=.seq (a.toArray.push v) (n+1)}:Obj)=aeG (a++[v]).toArray (n+1):=by
 rw[show a.toArray.push v=(a++[v]).toArray by simp]
theorem SR.AY {M M':Led} {σ:LS} (g:ak c) (h:c.comp=none) (R:SR (c.with M) σ s α N) (i:M'.Sublist M) {wr:List aez} {h₁:afm} {tk₁:Nat} (a:∀ b o,b∉wr->s.heap.get? b=some o->h₁.get? b=some o)
  (fq:∀ b∈wr,(∃ o,(b,o)∈M)/\b∉(N++M').map (·.1)):SR (c.with M') σ {s with heap:=h₁,toks:=tk₁} α N:=by
 refine Y R.fr λm F A=>?_
 have W:∀ b∈wr,b≠c.L/\c.h₀.get? b=none:=λb e=>by
  refine ae (fq b e) ?_;clear e;intro j k;obtain⟨o,l⟩:=j;exact (R.news (b,o) (aeu _ l)).2
 have f:Fr c.h₀ c.L h₁ m:=⟨F.ns.at' λo q=>a _ o (λz=>(W _ z).1 rfl) q,λb o q=>a b o (λz=>by rw[(W _ z).2]at q;exact aT q) (F.keep b o q),F.above⟩
 have sub:(N++M').Sublist (N++M):=List.Sublist.append (List.Sublist.refl N) i;refine⟨(ay m f ?_),R.aK,λp d=>?_,R.nodup.sublist (sub.map _),R.inj,R.obj,R.all,λp d=>R.hi p (sub.subset d),R.wf,R.bD,R.len,R.low,R.bt,R.gens,R.os,g.aZ.keeps f.keep⟩
 ·unfold NR at A ⊢;have n:∀ M,(c.with M).comp=none:=λk=>h
  rw[n]at A ⊢;exact A
 ·have q:=R.news p (sub.subset d);exact⟨a _ _ (λz=>(fq _ z).2 (aeF d)) q.1,q.2⟩
inductive AZ (c:Cx W) (σ:LS) (α:List aez) (N:Led) (D C:aez) (mf:Str->Option ael) (ws:List aez) (St:Nat->afm->Prop) (vs:List ael) (fn:List O->List O->LS->Rs) (y:Rs):Nat->aep->Prop
 |mk (i:Nat) (own':Led) (NC:Obj) (m':Str->Option ael) (ys:List ael) (n:Nat) (bu:LS) (bG:List aez) (N':Led) (l' acc:List O){s':aep}(he:own'.map (·.1)=ws) (R:SR (c.with (((D,aeG ys.toArray n)::(C,NC)::own')++c.ax)) bu s' bG N') (yz:ahn NC m') (F:Fr c.h₀ c.L s'.heap mf) (g:bh σ α N bu bG N') (er:St i s'.heap) (hi:i<=vs.length) (yA:ys.length<=i) (ie:ah W.kt α N (vs.drop i) l') (rG:ah W.kt bG N' ys acc) (h:fn l' acc bu=y) (uF:bu.aK=σ.aK):AZ c σ α N D C mf ws St vs fn y (vs.length+1-i) s'
theorem zN (h:i<n):n+1-(i+1)<n+1-i:=Nat.sub_lt_sub_left (afg h) (agy i)
theorem Ri (hc:ak c) (hn:c.comp=none) (hA:aP c d A) {elt target iter:aeM}{ifs:List aeM}{P Md:Nat->ael->afm->Prop}{St:Nat->afm->Prop}{V:Str->Option ael}
  (KT:KTurns W.prog W.w A target qf fp wr vs.length P Md St) (Hu:∀ i v h,P i v h->∃ u,vs[i]?=some u/\∀ α N a,VR W.kt α N u a->VR W.kt α N v a) (hT:oR sc target t) (ND:sc.kind=.function) (iV:(sc.names.map (·.1)).Nodup) (CD:nt=true->ifs=[])
  (hct:∀ M,(∀ p∈c.ax,p∈M)->(∃ o,(C,o)∈M)->sy (c.bA sc cl C V M) A ifs ct) (yB:∀ M,(∀ p∈c.ax,p∈M)->(∃ o,(C,o)∈M)->aE (c.bA sc cl C V M) A elt ce)
  {α N}{oC:Obj}{BF:Str->Option ael}(R:SR (c.with (((D,aeG #[] 0)::(C,oC)::own)++c.ax)) σ s α N) (yz:ahn oC BF) (qg:Fr c.h₀ c.L s.heap V) (hm:NR c σ.loc α N V) (ks:gj (ag0 sc c.env) α aK cl)
  (er:St 0 s.heap) (fq:∀ b∈wr,b∈own.map (·.1)) (mD:∀ i h,St i h->∀ b∈own.map (·.1),∃ o,h.get? b=some o) (ik:∀ b∈fp,b∈own.map (·.1)\/∃ o,dH c σ α N b o) (hfC:C∉fp) (hfD:D∉fp)
  (ie:ah W.kt α N vs l) (ed:vs.length<=1000) {fin:List O->LS->Rs}{y:Rs}(h:gM t nt aK ct ce l [] σ fin=y) (hy:y≠.no) (hx:∀ C,y≠.exc C) {RR:aip->aep->Prop}
  (BG:∀ Z m' k n f s' B E acc,SR (c.with ((D,aeG k.toArray n)::(C,Z)::c.ax)) f s' B E->ahn Z m'->Fr c.h₀ c.L s'.heap V->bh σ α N f B E->ah W.kt B E k acc->fin acc f=y->RR (.ok .next) s'):
  agk (aeR W.prog W.w) A (.compLoop (.ListComp elt [⟨target,iter,ifs,0⟩] sc pos) 0 (.ref qf) (.ref D) (ahL sc cl C c.env)) RR s:=by
 have NF:∀ {cx:Cx W}{σ α N qa},bS cx y σ α N qa:=λ{cx σ α N qa}C qb f s' B E q=>absurd q (hx C)
 refine Px (AZ c σ α N D C V (own.map (·.1)) St vs (λl acc σ=>gM t nt aK ct ce l acc σ fin) y) ?_ (vs.length+1)
  (.mk 0 own oC BF [] 0 σ α N l [] rfl R yz qg .refl er (afj _) (afj _) (by rw [ai0];exact ie) .nil h rfl)
 intro qd s' hI
 obtain ⟨i,own',Z,m',k,n,f,B,E,l',acc,he,L,LJ,F',g,mW,hi,yA,tW,rG,h,uF⟩:=hI
 have ku:∀ M:Led,∀ p∈c.ax,p∈M++c.ax:=λM p j=>aeu _ j
 have abC:∀ b∈(((D,aeG k.toArray n)::(C,Z)::own').map (·.1)),b≠c.L/\c.h₀.get? b=none:=λb e=>by
  refine Y (aeP.mp e) ?_;intro p j bj;subst bj
  exact (L.news p (aeu _ (aeo _ j))).2
 have nd:=pW.nodup_iff.mp L.nodup
 rw [aeX] at nd
 have yC:=(ae7.mp nd).1
 rw [aeU,aeU,ae3,ae3] at yC
 have uK:D≠C:=λqb=>yC.1 (by rw [show (D,aeG k.toArray n).1=C from qb];exact .head _)
 have CQ:D∉own.map (·.1):=λq=>yC.1 (by rw [←he] at q;exact .tail _ q)
 have CR:C∉own.map (·.1):=λq=>yC.2.1 (by rw [←he] at q;exact q)
 have zC:=L.news (C,Z) (aeu _ (aeo _ (.tail _ (.head _))))
 have zD:=L.news (D,aeG k.toArray n) (aeu _ (aeo _ (.head _)))
 by_cases bN:i<vs.length
 ·refine KT.item i _ _ _ bN mW λv h₁ tk₁ uI mF=>?_
  refine KT.go i v _ _ _ uI λly hP ml th=>?_
  have qs:∀ b o,b∉own.map (·.1)->s'.heap.get? b=some o->ly.get? b=some o:=λb o e q=>th b o (λz=>e (fq b z)) (mF b o (λz=>e (fq b z)) q)
  refine Y (Hu i v _ hP) ?_;clear Hu hP;intro u hu NG
  rw [ahX bN,show vs[i]=u from aej ((aeW bN).symm.trans hu)] at tW
  refine aH (Qp hy tW rG h) λuL BH tX wA Yl=>?_
  have Wr:ly.Ns C m':=LJ.ns (qs _ _ CR zC.1)
  have ex:∀ ws:List aez,(∀ b∈ws,∃ o,ly.get? b=some o)->∃ w:Led,w.map (·.1)=ws/\∀ p∈w,ly.get? p.1=some p.2:=λws=>by
   induction ws with
   |nil=>exact λu_=>⟨[],rfl,λp j=>(nomatch j)⟩
   |cons b ws ih=>
    intro q
    refine Y (ih λb e=>q b (.tail _ e)) ?_;clear ih;intro w e1 e2
    refine aL (q b (.head _)) λo ho=>?_
    refine (ay ((b,o)::w) (by rw [aeU,e1]) (λp j=>?_))
    rcases aeA.mp j with rfl|j
    ·exact ho
    ·exact e2 p j
  refine Y (ex (own.map (·.1)) (mD _ _ ml)) ?_;clear ex mD;intro w e1 e2
  have Ym:∀ (oD LK:Obj),((D,oD)::(C,LK)::w).map (·.1)=((D,aeG k.toArray n)::(C,Z)::own').map (·.1):=λoD LK=>by simp only [aeU];rw [e1,he]
  have cw:=L.ji hc (own':=(D,aeG k.toArray n)::(C,Z)::w) (t:=tk₁) (Ym _ _) (λb o e q=>qs b o (λz=>e (by rw [←he] at z;exact .tail _ (.tail _ z))) q) (λp j=>by
   rcases aeA.mp j with rfl|j
   ·exact qs _ _ CQ zD.1
   ·rcases aeA.mp j with rfl|j
    ·exact qs _ _ CR zC.1
    ·exact e2 p j)
  have turn:∀ {a:O}{loc:List (Nat×O)},VR W.kt α N v a->t.bind a=some loc->∀ {qc:Unit->aep->Prop}{qa:ael->aep->Prop},
    (∀ m iN dW,ahn m iN->el W (ag0 sc c.env) loc B E iN->SR (c.with (((D,aeG k.toArray n)::(C,m)::w)++c.ax)) f dW B E->Fr c.h₀ c.L dW.heap V->St (i+1) dW.heap->qc () dW)->
    WP W A (aio target (ahL sc cl C c.env) v) qc qa {s' with heap:=ly,toks:=tk₁}:=by
   intro a loc gZ e qc qa qd
   refine Rb hA.handled hT ND iV e cw (gZ.mono g.ge) Wr λtV tn iN GD kd me=>?_
   refine Y (LCg.ns_obj GD) ?_;clear GD;intro m heC jf
   have X:=cw.ji hc (own':=(D,aeG k.toArray n)::(C,m)::w) (h':=tV) (t:=tn) (by simp only [aeU]) (λb o e q=>me b o (λz=>e (by rw [z];exact .tail _ (.head _))) q) (λp j=>by
    rcases aeA.mp j with rfl|j
    ·exact me _ _ uK (qs _ _ CQ zD.1)
    ·rcases aeA.mp j with rfl|j
     ·exact heC
     ·exact me _ _ (λz=>CR (by rw [←e1,←z];exact aeF j)) (e2 p j))
   refine qd m iN _ jf kd X (Eng.Fr.turned F' (S:=((D,aeG k.toArray n)::(C,Z)::own').map (·.1)) abC λb o e q=>?_) (KT.frame _ _ _ ml λb e o q=>me b o (λz=>hfC (z▸e)) q)
   exact me b o (λz=>e (by rw [z];exact .tail _ (.head _))) (qs b o (λz=>e (by rw [←he] at z;exact .tail _ (.tail _ z))) q)
  have behind:∀ {m:Obj}{iN:Str->Option ael}{r:LS}{Q:aep}{H I}{val:ael}{vX:List O}{qa:ael->aep->Prop},ahn m iN->SR (c.with (((D,aeG k.toArray n)::(C,m)::w)++c.ax)) r Q H I->Fr c.h₀ c.L Q.heap V->St (i+1) Q.heap->bh σ α N r H I->r.aK=σ.aK->ah W.kt H I (k++[val]) vX->gM t nt aK ct ce uL vX r fin=y->
    WP W A (call (.builtin "list.append") [.ref D,val]) (λu_ ke=>∃ qe,qe<vs.length+1-i/\AZ c σ α N D C V (own.map (·.1)) St vs (λl acc σ=>gM t nt aK ct ce l acc σ fin) y qe ke) qa Q:=by
   intro m iN r Q H I val vX qa jf T tY Yn eR Yo Ws F
   have wC:=T.news (C,m) (aeu _ (aeo _ (.tail _ (.head _))))
   have wD:=T.news (D,aeG k.toArray n) (aeu _ (aeo _ (.head _)))
   have wO:∀ p∈w,Q.heap.get? p.1=some p.2:=λp j=>(T.news p (aeu _ (aeo _ (.tail _ (.tail _ j))))).1
   refine append_at (n:=n) wD.1 (λLL tw Hv=>?_) (by
    have qb:k.toArray.size=k.length:=by simp
    rw [qb]
    exact aeE (aeE yA (aeE hi ed)) AS)
   rw [PT] at Hv
   have oS:=T.ji hc (own':=(D,aeG (k++[val]).toArray (n+1))::(C,m)::w) (h':=LL) (t:=Q.toks) (by simp only [aeU]) (λb o e q=>(tw.2 b λz=>e (by rw [z];exact .head _)).trans q) (λp j=>by
    rcases aeA.mp j with rfl|j
    ·exact Hv
    ·rcases aeA.mp j with rfl|j
     ·exact (tw.2 _ (Ne.symm uK)).trans wC.1
     ·exact (tw.2 _ λz=>CQ (by rw [←e1,←z];exact aeF j)).trans (wO p j))
   refine (ay _ (zN bN) (.mk (i+1) w m iN (k++[val]) (n+1) r H I uL vX e1 oS jf (Eng.Fr.turned tY (S:=[D]) (λb e=>by rw [aev.mp e];exact wD.2) λb o e q=>(tw.2 b λz=>e (by rw [z];exact .head _)).trans q) eR (KT.frame _ _ _ Yn λb e o q=>(tw.2 b λz=>hfD (z▸e)).trans q) bN ?_ wA Ws F Yo))
   rw [agU,List.length_singleton]
   exact agf yA
  have wF:f.loc=σ.loc:=g.loc
  have xv:∀ {NH:LS},f.n<=NH.n->∀ i∈f.mark,i<NH.n:=λq i hi=>aet (L.bt i hi) q
  have eA:NR c f.loc B E V:=by rw [wF];exact hm.mono g.ge
  have uM:gj c.scope B f.aK c.env.cells:=L.aK
  have zO:∀ {dW Q:aep}{m:Obj}{r:LS}{H I},SR (c.with (((D,aeG k.toArray n)::(C,m)::w)++c.ax)) f dW B E->St (i+1) dW.heap->SR (c.with (((D,aeG k.toArray n)::(C,m)::w)++c.ax)) r Q H I->Sts σ α N r H I->St (i+1) Q.heap:=by
   intro dW Q m r H I X qL T qh
   refine KT.frame _ _ _ qL λb e o q=>?_
   rcases ik b e with e|⟨o',e⟩
   ·rw [←e1] at e
    refine Y (aeP.mp e) ?_;intro p j bj;subst bj
    have w3:=(X.news p (aeu _ (aeo _ (.tail _ (.tail _ j))))).1
    rw [q] at w3
    have bj:=aej w3;clear w3;subst o
    exact (T.news p (aeu _ (aeo _ (.tail _ (.tail _ j))))).1
   ·have q1:=e.at g.toSts X
    rw [q] at q1
    have bj:=aej q1;clear q1;subst o'
    exact e.at qh T
  rcases Yl with ⟨a,gZ,F⟩|⟨q,a,hq,gZ,F⟩
  ·refine Y (Qo (i7 gZ) F hy) ?_;clear F;intro loc e F
   refine turn (NG _ _ _ gZ) e λm iN dW jf kd X js qL=>?_
   have hM:∃ o,(C,o)∈((D,aeG k.toArray n)::(C,m)::w)++c.ax:=⟨m,aeo _ (.tail _ (.head _))⟩
   have Rc:=X.bA (lo:=f.lo) X.low js (aeo _ (.tail _ (.head _))) jf kd (ks.mono g.ge)
   refine hct _ (ku _) hM _ _ y F hy _ _ _ _ Rc NF _ λq r Q H I F A0 x=>?_
   have LM:Sts f B E (back f r) H I:=⟨x.ge,x.lo,x.same,x.n,rfl,x.obs,x.bf⟩
   induction q using aen with
   |false=>
    rw [if_neg (by decide)]
    refine ae (A0.xu hn eA x.ge uM (xv x.n)) λT tY=>?_
    exact ⟨_,zN bN,.mk (i+1) w m iN k n _ H I uL BH e1 T jf tY ⟨g.toSts.trans LM,wF⟩ (zO X qL T (g.toSts.trans LM)) bN (ag6 yA) wA (tX.mono x.ge) F uF⟩
   |true=>
    rw [if_pos rfl]
    have Wt:SR (c.bA sc cl C V (((D,aeG k.toArray n)::(C,m)::w)++c.ax)) ⟨loc,aK,r.st,r.n,r.lo,r.mark⟩ Q H I:=by
     refine ae (A0.xu hn eA x.ge uM (xv x.n)) ?_;clear A0;intro T tY
     have Wu:r.mark=f.mark:=x.mark
     have:=T.bA (lo:=r.lo) T.low tY (aeo _ (.tail _ (.head _))) jf (kd.mono x.ge) ((ks.mono g.ge).mono x.ge)
     rw [Wu]
     exact this
    refine yB _ (ku _) hM _ _ y F hy _ _ _ _ Wt NF _ λxw mG val ke wG mZ F wH wJ xx=>?_
    have tZ:Sts f B E (back f mG) wG mZ:=by
     have q:Sts ⟨loc,aK,f.st,f.n,f.lo,f.mark⟩ B E ⟨loc,aK,r.st,r.n,r.lo,r.mark⟩ H I:=⟨x.ge,x.lo,x.same,x.n,x.mark,x.obs,x.bf⟩
     have q':=q.trans wJ.toSts
     exact ⟨q'.ge,q'.lo,q'.same,q'.n,rfl,q'.obs,q'.bf⟩
    refine ae (wH.xu hn eA tZ.ge uM (xv tZ.n)) ?_;clear xv;intro oS ua
    exact behind jf oS ua (zO X qL oS (g.toSts.trans tZ)) ⟨g.toSts.trans tZ,wF⟩ uF ((tX.mono tZ.ge).app (.cons xx .nil)) F
  ·refine eJ (zv F hy) ?_;clear F;intro loc v' abD e gW F
   refine turn (NG _ _ _ gZ) e λm iN dW jf kd X js qL=>?_
   have hM:∃ o,(C,o)∈((D,aeG k.toArray n)::(C,m)::w)++c.ax:=⟨m,aeo _ (.tail _ (.head _))⟩
   rw [CD abD]
   refine wpAny_tests_nil ?_
   rw [if_pos rfl]
   have Rc:=X.bA (lo:=f.n) (aeD _) js (aeo _ (.tail _ (.head _))) jf kd (ks.mono g.ge)
   have qM:ak (c.bA sc cl C V (((D,aeG k.toArray n)::(C,m)::w)++c.ax)):=hc.bA ND iV hM
   refine yB _ (ku _) hM _ _ (.ok v') gW (λz=>by contradiction) _ _ _ _ Rc (λC qb f s' B E q=>by contradiction) _ λxw mG val ke wG mZ tx wH wJ xx=>?_
   refine ae (aS (show aN .no (aeZ f.n mG.lo) (fV f.n xw mG)=.ok v' from tx) nofun) ?_;clear tx;intro eU GF
   ·have eU:=aer eU
    refine ae (Rc.restore wH (σ:=⟨loc,aK,f.st,f.n,f.n,f.mark⟩) wJ eU) ?_;clear eU;intro xy oU
    have Yp:=si qM (σ:=⟨loc,aK,f.st,f.n,f.n,f.mark⟩) Rc wH wJ xx GF
    refine ae (xy.xu (σ:=f) hn eA oU.ge uM L.bt) ?_;clear xy eA uM;intro G xA
    have ri:SR (c.with (((D,aeG k.toArray n)::(C,m)::w)++c.ax)) f ke B mZ:=⟨G.fr,G.aK,G.news,G.nodup,G.inj,G.obj,G.all,G.hi,G.wf,G.bD,G.len,L.low,G.bt,G.gens,G.os,G.aZ⟩
    have LN:Sts f B E f B mZ:=⟨oU.ge,aeD _,λu_ u_=>rfl,aeD _,rfl,λi a o hi=>oU.obs i a o (aet hi L.low),oU.bf⟩
    exact behind jf ri xA (zO X qL ri (g.toSts.trans LN)) ⟨g.toSts.trans LN,wF⟩ uF ((tX.mono oU.ge).app (.yes hq Yp .nil)) F
 ·have nB:i=vs.length:=ajK hi (aft.mp bN)
  subst nB
  rw [ahJ] at tW
  refine Y (Rh hy tW rG h) ?_;clear hy tW rG h;intro BH tX hfk
  refine KT.done _ _ _ mW λh₁ tk₁ mF=>?_
  have NI:∀ b∈wr,b∈own'.map (·.1):=λb e=>by rw [he];exact fq b e
  have dq:=L.AY (M':=(D,aeG k.toArray n)::(C,Z)::c.ax) (wr:=wr) (h₁:=h₁) (tk₁:=tk₁) hc hn (.cons_cons _ (.cons_cons _ (ajr _ _))) mF λb e=>by
   refine Y (aeP.mp (NI b e)) ?_;intro p j bj;subst bj
   refine ⟨⟨p.2,aeo _ (.tail _ (.tail _ j))⟩,λz=>?_⟩
   have Yq:=L.nodup
   have BD:(E++(((D,aeG k.toArray n)::(C,Z)::own')++c.ax)).map (·.1)=E.map (·.1)++(D::C::(own'.map (·.1)++c.ax.map (·.1))):=by simp
   have Hw:(E.map (·.1)++(D::C::(own'.map (·.1)++c.ax.map (·.1)))).Nodup:=by rw [←BD];exact Yq
   refine bU (ae7.mp Hw) ?_;clear Hw;intro u_ n2 n3
   have lO:p.1∈own'.map (·.1):=aeF j
   rw [aeX] at z
   rcases aeQ.mp z with z|z
   ·exact n3 _ z _ (.tail _ (.tail _ (aeo _ lO))) rfl
   ·rw [ae3,ae3] at n2
    rw [aeU,aeU] at z
    rcases aeA.mp z with z|z
    ·exact n2.1 (.tail _ (aeo _ (by rw [←show p.1=D from z];exact lO)))
    ·rcases aeA.mp z with z|z
     ·exact n2.2.1 (aeo _ (by rw [←show p.1=C from z];exact lO))
     ·exact (ae7.mp n2.2.2).2.2 _ lO _ z rfl
  exact BG Z m' k n f _ B E BH dq LJ (Eng.Fr.turned F' (S:=own'.map (·.1)) (λb e=>by
   refine Y (aeP.mp e) ?_;intro p j bj;subst bj
   exact (L.news p (aeu _ (aeo _ (.tail _ (.tail _ j))))).2) λb o e q=>mF b o (λz=>e (NI b z)) q) g tX hfk
noncomputable def gm:Rs->Rs
 |.ok v=>.ok (.tup [v])
 |.exc C=>.ok (.glob C)
 |.no=>.no
noncomputable def jt (r:Rs):Rs:=Rs.casesOn (motive:=λc=>Rs) r (λv=>cF (qu .no v .exc) v λl=>gf .no l λa c=>.ok a) (λc=>.no) .no
theorem US (h:jt x=y)(a:y≠.no):∃ b,x=b/\x≠.no/\(∀ C,x≠.exc C)/\∀ z,gm z=x->z=y:=by
 refine (ay x rfl ?_);induction x using Rs.casesOn with
 |no=>exact bO h a
 |exc C=>exact bO h a
 |ok v=>
  refine (bH nofun nofun (λz c=>?_))
  induction z using Rs.casesOn with
  |no=>cases c
  |exc C=>cases c;exact h
  |ok d=>cases c;exact h
noncomputable abbrev iW:=LS->(List O->Option Nat->LS->Rs)->Rs
noncomputable def fH(o:Option Nat)(σ:LS):LS:=ae2 σ σ.bf o
inductive BI (c:Cx W) (A:ae6) (target:aeM) (l:List O) (σ:LS) (s:aep) (α:List aez) (N:Led) (I:aez):Prop
 |mk (own:Led) (fp wr:List aez) (vs:List ael) (P Md:Nat->ael->afm->Prop) (St:Nat->afm->Prop) (kt:KTurns W.prog W.w A target I fp wr vs.length P Md St) (item:∀ i v h,P i v h->∃ u,vs[i]?=some u/\∀ α N a,VR W.kt α N u a->VR W.kt α N v a) (self:∀ (s:aep) (Q:ael->aep->Prop) (E:ael->aep->Prop),St 0 s.heap->Q (.ref I) s->WP W A (aiC (.ref I)) Q E s) (R:SR (c.with (own++c.ax)) σ s α N) (st:St 0 s.heap) (fq:∀ b∈wr,b∈own.map (·.1)) (live:∀ i h,St i h->∀ b∈own.map (·.1),∃ o,h.get? b=some o) (ik:∀ b∈fp,b∈own.map (·.1)\/∃ o,dH c σ α N b o) (ie:ah W.kt α N vs l) (ed:vs.length<=1000)
noncomputable def tz (c:Cx W) (A:ae6) (target e:aeM) (m:iW):Prop:=∀ a k y,m a k=y->y≠.no->∀ s b N E,SR c a s b N->bS c y a b N E->∀ Q,
 (∀ l f d g h j I,k l f d=y->(∀ i,f=some i->i<d.n)->bh a b N d h j->(∀ i∈d.mark,i<d.n)->BI c A target l (fH f d) g h j I->Q (.ref I) g)->
 WP W A (eval e c.env) (λn o=>WP W A (aiC n) Q E o) E s
theorem zP (r:ah T α N vs l)(h:short l=true):vs.length<=1000:=aeE r.le (i5 h)
theorem vS (X:ak c) (D:aP c d A) (R:SR c σ s α N) (F:dH c σ α N b o) (g:o.cls=.type "tuple" \/o.cls=.type "list") (G:o.data=.seq vs.toArray n) (p:ah W.kt α N vs l) (H:short l=true)
  {Q:ael->aep->Prop} {E:ael->aep->Prop} (k:∀ I L,BI c A target l σ L α N I->Q (.ref I) L):WP W A (aiC (.ref b)) Q E s:=by
 have f:=F.at (M:=c.ax) .refl R;have Z:=aeS f;have P:b≠s.heap.objs.size:=aeN Z;have S:∀ {y:Obj},y.isFreed=false->SR (c.with ([(s.heap.objs.size,y)]++c.ax)) σ {s with heap:=s.heap.push y} α N:=λhf=>R.own X (t:=s.toks) (λb o q=>aeq _ q) (λqa hp=>by
  rw[aev.mp hp];exact ⟨aeJ _ hf,aeD _⟩) (afe _ _)
 have T:∀ x∈[s.heap.objs.size,b],x∈[s.heap.objs.size]\/∃ o,dH c σ α N x o:=λx z=>by
  rcases aeA.mp z with rfl|z
  ·exact .inl (.head _)
  ·rw[aev.mp z];exact .inr ⟨o,F⟩
 have V:∀ (i:Nat) v (h:afm),vs.toArray[i]?=some v->∃ u,vs[i]?=some u/\∀ α N a,VR W.kt α N u a->VR W.kt α N v a:=λi v h e=>(ay v (afx.symm.trans e) (λr r r h=>h))
 rcases g with g|g
 ·have j:s.heap.IsTuple b vs.toArray:=(fC o f g n G);refine agj j ?_;have m:=Walks.tuple (prog:=W.prog) (w:=W.w) D.handled s.heap.objs.size b P vs.toArray;have KT:=agz (target:=target) m λi v s Q E st q=>letGo_tupleiter st.1 q
  rw[show vs.toArray.size=vs.length from rfl]at KT;refine k _ _ ⟨[(s.heap.objs.size,_)],_,_,vs,_,_,_,KT,V,λs Q E st q=>m.self 0 s Q E st q,S rfl,⟨(dJ _ (aeJ _ rfl) rfl rfl),j.at λo e=>aeq _ e⟩,λb f=>f,λi h st b f=>?_,T,p,zP p H⟩
  have B:b=s.heap.objs.size:=aev.mp f;subst B;refine Y st.1 λo C r=>?_
  exact ⟨o,C⟩
 ·have j:s.heap.IsList b vs.toArray:=(fC o f g n G);refine ajk j ?_;have m:=Walks.list (prog:=W.prog) (w:=W.w) D.handled s.heap.objs.size b P vs.toArray;have KT:=agz (target:=target) m λi v s Q E st q=>letGo_listiter st.1 q
  rw[show vs.toArray.size=vs.length from rfl]at KT;refine k _ _ ⟨[(s.heap.objs.size,_)],_,_,vs,_,_,_,KT,V,λs Q E st q=>m.self 0 s Q E st q,S rfl,⟨(dJ _ (aeJ _ rfl) rfl rfl),j.at λo e=>aeq _ e⟩,λb f=>f,λi h st b f=>?_,T,p,zP p H⟩
  have B:b=s.heap.objs.size:=aev.mp f;subst B;refine Y st.1 ?_;clear st;intro o C r;exact ⟨o,C⟩
noncomputable def cy (a:Ev):iW:=λc k=>a c λv c=>cF (lq (d0 .no c.st v λi o=>gF .no o λl=>aN .no (short l) (k l (some i) c)) v λl=>aN .no (short l) (k l none c)) v λl=>aN .no (short l) (k l none c)
theorem UT (g:ak c) (m:aP c d A) (B:aE c A e C):tz c A target e (cy C):=by
 intro D k y h b s F N E R G Q o;refine B D _ y h b s F N E R G _ λv T val V X Z h W p q=>?_
 rcases l9 h with h|⟨l,rfl,h⟩
 ·rcases vL h with h|⟨l,rfl,h⟩
  ·refine pN W q h b λi a l t n u H r h=>?_
   refine ae (aS h b) ?_;clear h;intro f h;exact vS g m (W.bf (W.lt u)) (.inr ⟨H,.inr (ay i (.head _) u)⟩) (.inr rfl) rfl r f λI w K=>o _ (some i) _ _ _ _ _ h (λj e=>aej e▸W.lt u) p W.bt K
  ·refine ae (aS h b) ?_;clear h;intro f h;refine gC q.inv ?_;intro a t n L x z r;subst L;exact vS g m W (.inr ⟨x,.inl z⟩) (.inr rfl) rfl r f λI w K=>o _ none _ _ _ _ _ h (λi e=>nomatch e) p W.bt K
 ·refine ae (aS h b) ?_;clear h b;intro f h;rcases q.inv with ⟨a,qa,t,n,e,x,z,M,P,r⟩|⟨a,t,n,sl,e,S,r⟩
  ·subst e;exact vS g m W (.inr ⟨x,.inl z⟩) (.inl M.1) P r f λI w K=>o _ none _ _ _ _ _ h (λi e=>nomatch e) p W.bt K
  ·subst e;exact vS g m W (.inl (g.aZ _ _ S)) (.inl rfl) rfl r f λI w K=>o _ none _ _ _ _ _ h (λi e=>nomatch e) p W.bt K
noncomputable def Ay (t:CT) (nt:Bool) (a:List (Nat×Nat)) (b:iW) (e:Tc) (f:Ev) (σ:LS) (K:List O->LS->Rs):Rs:=aD .no (qK σ.aK a) λh=>b σ λl d c=>aD .no (qK c.aK a) λA=>jt (gM t nt A e f l [] (fH d c) λW g=>gm (K W (g.fL c)))
structure vY (c:Cx W) (A:ae6) (target iter elt:aeM) (ifs:List aeM) (sc:afC) (t:CT) (nt:Bool) (rm:List (Nat×Nat)) (it:iW) (ct:Tc) (ce:Ev):Prop where
 tgt:oR sc target t
 kind:sc.kind=.function
 cW:(sc.names.map (·.1)).Nodup
 ntt:nt=true->ifs=[]
 cell:∀ x∈sc.names,x.2≠.cell
 rm:oQ sc c.scope rm
 set:hJ iter=true
 it:tz c A target iter it
 ct:∀ C mf M,(∀ p∈c.ax,p∈M)->(∃ o,(C,o)∈M)->sy (c.bA sc (gQ c.env.cells sc.names []) C mf M) A ifs ct
 ce:∀ C mf M,(∀ p∈c.ax,p∈M)->(∃ o,(C,o)∈M)->aE (c.bA sc (gQ c.env.cells sc.names []) C mf M) A elt ce
theorem SO (g:Sts (fH oi σ) α N a b e):Sts σ α N (a.fL σ) b e:=by
 induction oi using aeB with
 |none=>exact⟨g.ge,g.lo,g.same,g.n,rfl,g.obs,g.bf⟩
 |some i=>exact g.fL
theorem GG:(fH oi σ).n=σ.n:=by induction oi using aeB<;>rfl
theorem SP:(fH oi σ).loc=σ.loc:=by induction oi using aeB<;>rfl
theorem SQ:(fH oi σ).aK=σ.aK:=by induction oi using aeB<;>rfl
theorem zh (m:oQ sc c.scope t) (R:SR (c.with M) σ s α N) (h:qK σ.aK t=some u) (v:(sc.names.map (·.1)).Nodup):
  (∀ x,(x,af5)∈sc.names->∃ a,c.env.cells.lookup x=some a)/\gj (ag0 sc c.env) α u (gQ c.env.cells sc.names []):=by
 refine ae (E4 h) λw y=>?_
 refine⟨λx z=>?_,λj i B=>?_⟩
 ·refine aL (ahC.mp z) λn o=>?_
  refine aL (m.all n x o) λC W=>?_
  refine be (m.mem _ W) λb k e f=>?_
  refine ae (ae8 (aej (o.symm.trans e))) ?_;clear o;intro d g;subst d;refine aL (w _ W) λi p=>?_
  refine cj (R.aK _ _ p) λb A a l q r=>?_
  refine ae (ae8 (aej (f.symm.trans (show c.scope.names[C]?=some (b,A) from l)))) ?_;intro d g;subst d;exact⟨a,q⟩
 ·refine Y (y j i B) λn W p=>?_
  refine be (m.mem _ W) λx k e f=>?_
  refine cj (R.aK _ _ p) λb A a l q r=>?_
  refine ae (ae8 (aej (f.symm.trans (show c.scope.names[n]?=some (b,A) from l)))) ?_;clear f l;intro d g;subst d;refine Y (vq (env:=c.env) e) λA D g=>?_
  exact (dy x A a D ((D8 v λg=>rfl).1 a q (aeV e)) r)
theorem EB (hc:ak c) (l:c.comp=none) (hA:aP c d A) (H:vY c A target z S T sc t nt rm it ct ce)
  {K:List O->LS->Rs} (h:Ay t nt rm it ct ce σ K=y) (j:y≠.no) (R:SR c σ s α N) (hE:bS c y σ α N E) {use:Option (ael->Sem Unit)} {Q:ael->aep->Prop}
  (BG:∀ D C B V F n k G m p i,SR (c.with ((D,aeG F.toArray n)::(C,B)::c.ax)) k G m p->ahn B V->bh σ α N k m p->ah W.kt m p F i->K i k=y->compPost (aeR W.prog W.w) A E use Q (.ref D) C (.ok .next) G):
  WP W A (comprehension (.ListComp S [⟨target,z,T,0⟩] sc pos) sc c.env pos' (newList []) false (eval z c.env) use) Q E s:=by
 refine Y (aR h j) ?_;clear h;intro ad2 UU h
 have Yr:=zh (c:=c) (M:=c.ax) H.rm R UU H.cW
 refine wpAny_comprehension_free rfl (pU H.set c.env) (DW Yr.1) H.kind (λqb hx hl=>?_) ?_
 ·refine aL (ahC.mp hx) ?_;clear hx;intro n l
  obtain ⟨qb,qf⟩:=qb
  dsimp only at hl
  subst hl
  exact eX H.cW l
 refine afN (H.it σ _ y h j s α N E R hE (λit' a=>WP W A (newList []) (λi r=>WP W A (newFunctionEnv sc c.env.globals (gQ c.env.cells sc.names []) [] c.env.qual none .none (some c.env)) (λLO rg=>
   agk (aeR W.prog W.w) A (.compStart (.ListComp S [⟨target,z,T,0⟩] sc pos) 0 it' i {LO with scope:=ag0 sc c.env}) (compPost (aeR W.prog W.w) A E use Q i LO.locals) rg) E r) E a) λqg oi X a cL bZ qc h yD hY rH abE=>?_) (λu u q=>q) λu u q=>q
 refine Y (aR h j) ?_;clear h;intro aK BJ h
 refine j1 (US h j) ?_;clear h;intro y' ad4 Ys Yt Yu
 obtain ⟨Z,fp,wr,vs,qh,Md,St,KT,hP,Yv,dq,er,fq,mD,ik,ie,ed⟩:=abE
 refine afQ (wpAny_newFunctionEnv H.cell (λy j=>nomatch j) (λv I L=>?_) H.kind)
 dsimp only at I L ⊢
 generalize CS:a.heap.push {cls:=.type "list",dict:=none,data:=.seq ([]:List ael).toArray}=f at I L ⊢
 have g:f.objs.size=a.heap.objs.size+1:=by rw [←CS,af9]
 have uK:a.heap.objs.size≠f.objs.size:=by rw [g];exact aeN (agy _)
 have below:∀ b,b<a.heap.objs.size->b≠f.objs.size/\b≠a.heap.objs.size:=λb P=>⟨by rw [g];exact aeN (afg P),aeN P⟩
 have old:∀ b o,a.heap.get? b=some o->v.get? b=some o:=λb o e=>L.extBut b o (below b (aeS e)).1 (aeq _ (CS▸aeq _ e))
 have hD:v.get? a.heap.objs.size=some (aeG #[] 0):=L.extBut _ _ uK (aeq _ (CS▸aeJ _ rfl))
 refine Y (LCg.ns_obj I) ?_;clear I;intro oC yz hnC
 have lt:∀ b∈fp,b<a.heap.objs.size:=λb P=>by
  rcases ik b P with q|⟨o,q⟩
  ·refine aL (mD _ _ er b q) λo ho=>?_
   exact aeS ho
  ·exact aeS (q.at .refl dq)
 have GH:St 0 v:=KT.frame _ _ _ er λb u o e=>old b o e
 have wK:ak (c.with (Z++c.ax)):=hc.with λqd w=>aeu _ w
 have bW:SR (c.with (((a.heap.objs.size,aeG #[] 0)::(f.objs.size,oC)::Z)++c.ax)) (fH oi X) {a with heap:=v,toks:=a.toks} cL bZ:=SR.own (c:=c.with (Z++c.ax)) dq wK (own:=[(a.heap.objs.size,aeG #[] 0),(f.objs.size,oC)]) (t:=a.toks) old (λqd w=>by
  rcases aeA.mp w with rfl|w
  ·exact ⟨hD,aeD _⟩
  ·rw [aev.mp w]
   exact ⟨yz,by show a.heap.objs.size<=f.objs.size;rw [g];exact af7 _⟩) (ae3.mpr ⟨λq=>uK (aev.mp q),afe _ _⟩)
 have Yw:=(zh (c:=c) H.rm dq (by rw [SQ];exact BJ) H.cW).2
 refine Y bW.fr λmf js A1=>?_
 have hm:NR c (fH oi X).loc cL bZ mf:=by
  have hn':∀ x,(c.with x).comp=none:=λu=>l
  unfold NR at A1 ⊢
  rw [hn'] at A1
  rw [l]
  exact A1
 have loop:∀ r:aep,r={a with heap:=v,toks:=a.toks+([]:List (Str×ael)).length}->
   agk (aeR W.prog W.w) A (.compLoop (.ListComp S [⟨target,z,T,0⟩] sc pos) 0 (.ref qc) (.ref a.heap.objs.size) (ahL sc (gQ c.env.cells sc.names []) f.objs.size c.env))
    (compPost (aeR W.prog W.w) A E use Q (.ref a.heap.objs.size) f.objs.size) r:=by
  rintro r rfl
  refine Ri hc l hA KT hP H.tgt H.kind H.cW H.ntt (λx hM g=>H.ct _ _ x hM g) (λx hM g=>H.ce _ _ x hM g) bW hnC js hm Yw GH fq mD ik (λqa=>by have q:=lt _ qa;rw [g] at q;exact afG _ (Nat.lt_of_succ_lt q)) (λqa=>afG _ (lt _ qa)) ie ed rfl Ys Yt ?_
  intro B V F n k G m p i R' abF F' g' rG hk
  have g'':=SO g'.toSts
  refine BG _ _ B V F n (k.fL X) G m p i (R'.marked λqe hi=>aet (rH qe hi) (by have:=g'.n;rw [GG] at this;exact this)) abF ⟨hY.toSts.trans g'',?_⟩ rG (Yu _ hk)
  show k.loc=σ.loc
  rw [g'.loc,SP,hY.loc]
 exact codeAny_compStart_list (loop _ rfl) (Yv _ _ _ GH (loop _ rfl))
theorem SR.LP (a:ak c) (e:c.comp=none) (R:SR (c.with ((C,f)::c.ax)) σ s α N) (g:aiE C s.heap h'):SR c σ {s with heap:=h'} α N:=
 SR.AY (M':=c.ax) (wr:=[C]) (tk₁:=s.toks) a e R (List.sublist_cons_self _ _) (λb o d q=>g.extBut b o (λz=>d (by rw[z];exact .head _)) q) λb d=>by
  rw[aev.mp d];refine⟨⟨f,.head _⟩,λz=>?_⟩
  have A:=pM.mp R.nodup;rw[aeU,ae3]at A;exact A.1 z
noncomputable def wL (st:Bool) (a:List O) (σ:LS) (K:O->LS->Rs):Rs:=match st with
 |true=>(match σ.room with
  |true=>K (.ref σ.n) (σ.push (.list a))
  |false=>.no)
 |false=>K (.hl a) σ
theorem E5 (l:ak c){D C:aez}(R:SR (c.with ((D,aeG m.toArray n)::(C,a)::c.ax)) σ s α N) (r:ah W.kt α N m i){st:Bool}{K:O->LS->Rs}{y}(h:wL st i σ K=y) (o:y≠.no):
  ∃ v b e f,SR (c.with ((C,a)::c.ax)) b s e f/\bh σ α N b e f/\VR W.kt e f (.ref D) v/\K v b=y:=by
 have d:ak (c.with ((C,a)::c.ax)):=l.with λp q=>.tail _ q
 induction st using aen with
 |false=>
  refine ae (SR.hide (c:=c.with ((C,a)::c.ax)) d R) λA g=>?_
  have j:=pM.mp R.nodup;rw[aeU,ae3]at j;have t:D∉α:=λh=>j.1 (by rw[aeX];exact aeo _ (R.all D h))
  exact⟨_,_,_,_,A,g,.hl (.head _) t (r.mono g.ge),h⟩
 |true=>
  unfold wL at h;dsimp only at h;split at h
  ·rename_i k;refine ae (SR.adopt (c:=c.with ((C,a)::c.ax)) (ao:=.list i) d k R λg=>.list (r.mono g.ge)) ?_;clear d k r;intro A g
   exact (pR _ _ _ _ A g (.ref (kG R.len)) h)
  ·exact bO h o
noncomputable def bP (st:Bool)(t:CT)(nt:Bool)(a:List (Nat×Nat))(b:iW)(e:Tc)(f:Ev):Ev:=λc k=>Ay t nt a b e f c λd c=>wL st d c k
theorem SS (a:ak c) (e:c.comp=none) (v:aP c d A){f target i:aeM}{j:List aeM}{sc:afC}{pos:Pos}{st:Bool}{t:CT}{nt:Bool}{l:List (Nat×Nat)}{m:iW}{o:Tc}{p:Ev}(H:vY c A target i f j sc t nt l m o p): aE c A (.ListComp f [⟨target,i,j,0⟩] sc pos) (bP st t nt l m o p):=by
 intro M k y h b s P N E R w Q x;rw [eval_ListComp];refine EB a e v H (use:=none) h b R w λD C z B S n T V X Z acc q F g r W=>?_
 refine pQ (E5 a q r W b) ?_;clear q r W b;intro qa σ₂ ek dK u G I W;refine (ay B (F.ns (u.news (C,z) (aeu _ (.head _))).1) (λh' L=>?_))
 exact x _ _ _ _ _ _ W (u.LP a e L) (g.trans G) I
noncomputable def la (st:Bool)(t:CT)(nt:Bool)(a:List (Nat×Nat))(b:iW)(e:Tc)(f:Ev)(g:Tg):Sc:=λc kn A=>Ay t nt a b e f c λd c=>wL st d c λv c=>g v c kn
theorem SU (k:ak c) (l:c.comp=none) (L:aP c d A){f target b:aeM}{i:List aeM}{sc:afC}{pos p a:Pos}{x:Str}{st:Bool}{t:CT}{nt:Bool}{o:List (Nat×Nat)}{q:iW}{r:Tc}{u:Ev}{v:Tg}(H:vY c A target b f i sc t nt o q r u) (N:aiw (.ListComp f [⟨target,b,i,0⟩] sc pos) (some (.Name x a)) p.line c.env=pure true) (P:∀ M,(∀ p∈c.ax,p∈M)->kc (c.with M) A (.Name x a) v): bQ c A (.Assign [.Name x a] (.ListComp f [⟨target,b,i,0⟩] sc pos) p) (la st t nt o q r u v):=by
 intro σ kn kr qa h m s α qb E R w S T cY;rw [exec_Assign_Name_used _ _ _ _ N];refine aek (ahO (aek ?_));show aeO _ A (do let _←comprehension (.ListComp f [⟨target,b,i,0⟩] sc pos) sc c.env _ (newList []) false (eval b c.env) (some (aio (.Name x a) c.env))) _ _ s
 refine aek (afN (EB (Q:=λn j=>S .next j) k l L H (use:=some (aio (.Name x a) c.env)) h m R w λD C y V ys qc bu j bG N' acc z X g B W=>?_) (λn j Z=>aey (aey Z)) λn n e=>e)
 refine pQ (E5 k z B W m) ?_;clear z B W;intro qd σ₂ ek dK cw F hv W;have G:∀ p∈c.ax,p∈(C,y)::c.ax:=λp hp=>.tail _ hp
 show aeO _ A (aio (.Name x a) c.env (.ref D)) _ E j;refine P _ G _ _ _ _ W m _ _ _ _ _ cw ((w.step (g.trans F).kp).with l G) hv _ λk9 dW jk fY W I dN=>?_
 refine (ay V (X.ns (I.news (C,y) (aeu _ (.head _))).1) (λh' hs=>?_))
 exact T _ _ _ _ W (I.LP k l hs) ((g.trans F).toSts.trans dN)
end
theorem r8:Slot "reversed" "__next__" "reversed.__next__" :=
 .of (owner:= "reversed") (n:= "__next__") (by rw[ag1,age];kernel_rfl) (by decide +kernel) (by decide +kernel) (by decide +kernel) (by first|exact .inl (by decide +kernel)|exact .inr (by decide +kernel)) (by rw[isSubtype_type];kernel_rfl)
theorem E6:Manifest.owners.lookup (String.ofList ['d','e','s','r','e','v','e','r'].reverse)=some Manifest.sig_reversed:=by kernel_rfl
theorem DY:entryFor table "reversed.__next__" =some Builtin.«reversed.__next__»:=ajC (by kernel_rfl)
theorem D4 (a:ael):argsOk "reversed.__next__" ⟨[a],[]⟩:=by
 unfold argsOk;rw[signature?_of (id:= "reversed.__next__") (n:=['_','_','t','x','e','n','_','_']) (o:=['d','e','s','r','e','v','e','r']) (by kernel_rfl) E6];kernel_rfl
theorem D5:Slot "reversed" "__iter__" "reversed.__iter__" :=
 .of (owner:= "reversed") (n:= "__iter__") (by rw[ag1,age];kernel_rfl) (by decide +kernel) (by decide +kernel) (by decide +kernel) (by first|exact .inl (by decide +kernel)|exact .inr (by decide +kernel)) (by rw[isSubtype_type];kernel_rfl)
theorem Py (a:ael):argsOk "reversed.__iter__" ⟨[a],[]⟩:=by
 unfold argsOk;rw[signature?_of (id:= "reversed.__iter__") (n:=['_','_','r','e','t','i','_','_']) (o:=['d','e','s','r','e','v','e','r']) (by kernel_rfl) E6];kernel_rfl
theorem Pu:entryFor table "reversed.__iter__" =some Builtin.«dict_keyiterator.__iter__»:=
 entryFor_alias (id':= "dict_keyiterator.__iter__") (by kernel_rfl) (by first|rfl|decide +kernel|(unfold String.splitOn;simp +decide[String.splitOnAux])) (by decide +kernel) (by kernel_rfl)
theorem UW:ahM (.type "tuple") "__reversed__" =pure none:=by rw[ag1,age];kernel_rfl
section
variable{prog:ae9}{w:afq}{A:ae6}{E:ael->aep->Prop}{s:aep}
noncomputable def tB(t:aez)(i:Int):Obj:={cls:=.type "reversed",data:=.fields #[.ref t,aff i]}
noncomputable def iO(h:afm)(a t:aez)(i:Int):Prop:=∃ o,h.get? a=some o/\o.cls=.type "reversed" /\o.data=.fields #[.ref t,aff i]
theorem iO.typeIs (x:iO s.heap a t i):s.TypeIs (.ref a) "reversed" :=(cK (x) λo w A E=>(ay o w A))
theorem iO.at (x:iO h a t i) (e:∀ o,h.get? a=some o->h'.get? a=some o):iO h' a t i:=(Y (x) λo s r=>(ay o (e _ s) r))
theorem Wv {Q₁:ael->aep->Prop}(c:IsTup s.heap t b) (d:(b.size:Int)<2^63) (h:Q₁ (.ref s.heap.objs.size) {s with heap:=s.heap.push (tB t ((b.size:Int)-1)),toks:=s.toks+1+1}): agk (aeR prog w) A (.call (.builtin "reversed.__new__") ⟨[.type "reversed",.ref t],[]⟩) (wants Q₁ E) s:=by
 refine codeAny_of_tree ?_
 show aeO _ A.in1 (do ahN "reversed.__new__" ⟨[.type "reversed",.ref t],[]⟩;again (.builtin "reversed.__new__" ⟨[.type "reversed",.ref t],[]⟩)) _ _ s
 refine aek (agT (F.newCall_reversed_1 _) (aey ⟨plainId_quiet aiJ _,aiK F.entry_reversed_new ?_⟩))
 rw [Around.under_plainId aiJ _]
 unfold Builtin.«reversed.__new__»
 refine aek (agT (newClass_reversed _) ?_)
 try dsimp only
 refine aek (agT (a:=()) (by first|rfl|kernel_rfl) ?_)
 refine aek (agT (a:=()) (by first|rfl|kernel_rfl) ?_)
 try dsimp only
 refine aek (ahZ c.typeIs UW ?_)
 try dsimp only
 refine aek (aek (m:=isInstance (.ref t) (.type "dict")) (ait c.typeIs F.sub_tuple_dict ?_))
 try dsimp only
 rw [if_neg (by decide)]
 refine aek (ahZ c.typeIs aja.lookup ?_)
 try dsimp only
 rw [if_pos (by decide)]
 refine aey ?_
 try dsimp only
 rw [if_neg (by decide)]
 refine aek (len_tuple c d ?_)
 refine aek (agT (a:=some (b.size:Int)) rfl ?_)
 try dsimp only
 refine aek (m:=Builtin.SmallTypes.newRecord (.type "reversed") [.ref t,aff ((b.size:Int)-1)]) ?_
 show aeO _ _ (newObj (.type "reversed") (.fields [.ref t,aff ((b.size:Int)-1)].toArray)) _ _ _
 refine afQ ?_
 exact aey h
theorem zw:TypeCalled "reversed" "reversed.__new__" "object.__init__" :=
 ⟨by decide +kernel,F.create_reversed,(LB _ _ F.mro_reversed),F.made_reversed,aiJ,F.sub_reversed_self, .of (owner:= "object") (n:= "__init__") (by rw[ag1,age];kernel_rfl) (by decide +kernel) (by decide +kernel) (by decide +kernel) (by first|exact .inl (by decide +kernel)|exact .inr (by decide +kernel)) (by rw[isSubtype_type];kernel_rfl)⟩
theorem O5 {Q:ael->aep->Prop}(e:IsTup s.heap t d) (f:(d.size:Int)<2^63) (h:Q (.ref s.heap.objs.size) {s with heap:=s.heap.push (tB t ((d.size:Int)-1)),toks:=s.toks+1+1}):aeO (aeR prog w) A (call (.type "reversed") [.ref t]) Q E s:=by
 refine callType_codes (Q₁:=λa b=>b.TypeIs a "reversed" /\Q a b) zw (F.typeCall_reversed_1 _) F.entry_object_init (Wv e f ⟨(ay _ (aeJ _ rfl) rfl),h⟩) λa b c=>?_
 exact (bH c.1 (F.args_object_init_2 a _) (object_init_meets zw.init.lookup zw.made (by decide) prog w A.in1 _ b (bH c.1 rfl c.2)))
theorem UX {c t:aez}{i:Nat}{e:Array ael}{x:ael}{Q:Option ael->aep->Prop}(f:iO s.heap c t (i:Int)) (g:IsTup s.heap t e) (h:e[i]?=some x) (n:(e.size:Int)<2^62)
  (k:∀ h' tk,iO h' c t ((i:Int)-1)->aiE c s.heap h'->Q (some x) {s with heap:=h',toks:=tk}):aeO (aeR prog w) A (aiq (.ref c)) Q E s:=by
 refine cK (id f) λo d l b=>?_
 have p:i<e.size:=by
  rw[agw]at h
  exact h.1
 unfold aiq
 refine aek (ahS (afR (name:=agE "__next__") f.typeIs r8
  (afU r8 f.typeIs DY ?_ (D4 _))))
 unfold Builtin.«reversed.__next__»
 refine aek (agT (a:=(afr c,[])) rfl ?_)
 try dsimp only
 refine aek (afc d b (x:=.ref t) rfl ?_)
 refine aek (afc d b (x:=aff (i:Int)) rfl ?_)
 show aeO _ _ (if (i:Int)<0 then _ else _) _ _ s
 rw[if_neg (by omega)]
 show aeO _ _ (specialOf (.ref t) "__getitem__" >>=_) _ _ s
 refine aek (ahZ g.typeIs aja.lookup ?_)
 rw[if_neg (by decide)]
 refine aek (m:=mkInt (i:Int)) (wpAny_mkInt ?_)
 refine aek (ahS (getItem_tuple (j:=i) (x:=x) (ay _ g.choose_spec.1 g.choose_spec.2) (by omega) (by omega) ?_ h ?_))
 ·unfold ai9
  simp only[show ¬ ((i:Int)<0) by omega,if_false]
  rw[if_pos (by simp only[afd,decide_eq_true_eq];omega)]
  rfl
 try dsimp only
 refine aek (afc d b (x:=aff (i:Int)) rfl ?_)
 try dsimp only
 refine aek (ahc d b (by simp) ?_)
 refine aey (ay x rfl (aey (k _ _ ?_ (agr ..))))
 exact (dJ _ (agd _ d (ahB (agi b _))) ((Obj.cls_mapFields ..).trans l) (by
  rw[agi b];simp))
theorem Ww {Q:Option ael->aep->Prop}(g:A.handled=none) (f:iO s.heap c t (-1)) (h:∀ h',ai5 c s.heap h'->Q none {s with heap:=h'}):aeO (aeR prog w) A (aiq (.ref c)) Q E s:=by
 refine cK (id f) λo e j d=>?_
 unfold aiq
 refine aek (ahS (afR (name:=agE "__next__") f.typeIs r8 (afU r8 f.typeIs DY ?_ (D4 _))))
 unfold Builtin.«reversed.__next__»
 refine aek (agT (a:=(afr c,[])) rfl ?_)
 try dsimp only
 refine aek (afc e d (x:=.ref t) rfl ?_)
 refine aek (afc e d (x:=aff (-1)) rfl ?_)
 show aeO _ _ (if (-1:Int)<0 then _ else _) _ _ s
 rw[if_pos (by decide)]
 refine aek (ahs ?_)
 have i:(s.heap.update c (ahQ (·.setIfInBounds 1 (aff (-1))))).get? c=some (o.mapFields (·.setIfInBounds 1 (aff (-1)))):=agd _ e (ahB (agi d _))
 refine aek (aek (ahc e d (by simp) (ahc i (agi d _) (by simp) ?_)))
 refine aek (m:=aiu) ?_
 unfold aiu
 refine aek ?_
 simp only[newExc,newTuple]
 refine aek (afQ ?_ (by size_fits))
 refine aek (m:=ai2 _ _) (agT (a:=agl) (by first|rfl|(simp only[ai2];rfl)) ?_)
 refine afQ ?_ (by size_fits)
 simp only[raiseNew]
 refine aek (wpAny_handled ?_)
 first|rw[show A.in1.handled=none from g]|rw[g]
 refine aek (aey (wpAny_throw ?_))
 refine aek (ait (T:= "StopIteration") (b:=true) (ay _ (aeJ _ rfl) rfl) isSubtype_stop ?_)
 exact aey (h _ ((((agr ..).trans (agr ..)).extBut.push _).push _))
theorem F0{Q:ael->aep->Prop}(a:iO s.heap b t i) (h:Q (.ref b) s):aeO (aeR prog w) A (aiC (.ref b)) Q E s:=by
 refine wpAny_pyIter_slot a.typeIs D5 (afU D5 a.typeIs Pu ?_ (Py _));show aeO _ _ (ret (.ref b)) _ _ s;exact aey (RW _ rfl ("reversed") _ a.typeIs r8.lookup h)
theorem UY (q:A.handled=none) (I t:aez) (r:t≠I) (a:Array ael) (u:(a.size:Int)<2^62):
  Walks prog w A I [I,t] [I] a.size (λi v=>a[a.size-1-i]?=some v) (λi h=>i<=a.size/\iO h I t ((a.size:Int)-1-(i:Int))/\h.IsTuple t a) where
 sub:=λb c=>by simp at c;simp [c]
 frame:=λd d d x l=>(bH x.1 (x.2.1.at λo e=>l I (by simp) o e) (x.2.2.at λo e=>l t (by simp) o e))
 item:=λi s Q E y x f=>by
  have e:(a.size:Int)-1-(i:Int)=((a.size-1-i:Nat):Int):=by omega
  have g:=x.2.1;rw [e] at g;have m:a[a.size-1-i]?=some (a[a.size-1-i]'(by omega)):=Array.getElem?_eq_getElem (by omega)
  refine UX g x.2.2 m u λk z n p=>?_
  have B:((a.size-1-i:Nat):Int)-1=(a.size:Int)-1-((i+1:Nat):Int):=by omega
  rw [B] at n;exact f _ k z m (bH y n (x.2.2.at λo j=>(p.2 t r).trans j)) λb o c j=>p.extBut b o (λh=>c (by simp [h])) j
 done:=λs Q E x f=>by
  have e:(a.size:Int)-1-(a.size:Int)=-1:=by omega
  have g:=x.2.1;rw [e] at g;exact Ww q g λk C=>f k s.toks λb o c j=>C b o (λh=>c (by simp [h])) j
 self:=λd d d d x f=>F0 x.2.1 f
end
section
variable{W:Wd}{c:Cx W}{A:ae6}{d:Nat}
theorem Hx{P b:Nat->ael->afm->Prop}{St:Nat->afm->Prop}(K:KTurns prog w A target I f wr n P b St): KTurns prog w A target I f wr n (λi v h=>i<n/\P i v h) (λi v h=>i<n/\b i v h) St where
 sub:=K.sub;frame:=K.frame;item:=λi s Q E e st d=>K.item i s Q E e st λv W g c a=>d v W g ⟨e,c⟩ a
 go:=λi v s Q E c d=>K.go i v s Q E c.2 λW j k a=>d W ⟨c.1,j⟩ k a
 done:=K.done
theorem VR.tok (h:VR T α N v a):v=.int i t->VR T α N (.int i t') a:=
 VR.rec (motive_1:=λv a c=>v=.int i t->VR T α N (.int i t') a) (motive_2:=λc c c=>True) (λe=>nomatch e) (λc e=>nomatch e) (λc c e=>by cases e;exact .int _ _) (λc c e=>nomatch e) (λc c c c c c e=>nomatch e) (λc c c e=>nomatch e) (λc c c c e=>nomatch e) (λc e=>nomatch e) (λc e=>nomatch e) (λc d e=>.ty (d e)) (λc c c c e=>nomatch e) (λc c c c e=>nomatch e) (λc e=>.bR rfl) (λc c c e=>nomatch e) trivial (λc c c c=>trivial) (λc c c c c=>trivial) (λc c c=>trivial) h
noncomputable def rj (n:Nat):List Value:=(af2 n).map λ(i:Nat)=>Value.int (afB i) 0
theorem F2 (h:i<n):(rj n)[i]?=some (Value.int (i:Int) 0):=by
 unfold rj;rw[aga,List.getElem?_range h];rfl
theorem zQ:(rj n).length=n:=by unfold rj;rw[ahr,List.length_range]
theorem Wx:∀ {vs:List ael},vs.length=l.length->(∀ (i:Nat) (a:O),l[i]?=some a->∃ v,vs[i]?=some v/\VR T α N v a)->ah T α N vs l:=by
 induction l with
 |nil=>intro vs e _;cases agn.mp e;exact .nil
 |cons a l c=>
  intro vs e h;induction vs using aeC with
  |nil=>cases e
  |cons v vs=>
   refine Y (h 0 a rfl) λd A W=>?_
   have f:=aej A;subst d;exact .cons W (c (af0 e) λi a b=>h (i+1) a b)
theorem SV:ah T α N (rj n) (oP n 0):=by
 refine Wx (by rw[zQ,sm]) λi a c=>?_
 have d:i<n:=by have:=(ae4.mp c).1;rwa[sm]at this
 have e:=Ad c;subst e;refine (ay _ (F2 d) ?_);rw[ahh];exact .int _ _
noncomputable def iP (a:Ev):iW:=λc k=>a c λv c=>dU .no v λi=>afF (motive:=λd=>Rs) i (λn=>aN .no (aeZ n (nat_lit 1000)) (k (oP n (nat_lit 0)) none c)) (λd=>.no)
theorem UZ (j:ak c) (G:aP c d A){target e:aeM}{H:Nat}{m:Ev}(p:aeH e=false) (L:c.scope.names[H]?=some (("range" :Str),ae5)) (a:W.G.boot "range" =true) (M:aE c A e m):
  tz c A target (.Call (.Name "range" rp) [e] [] pos) (iP m):=by
 intro S qa y h f s r N E R T Q V;refine Call_ (jY (v:=.type "range") j L (by decide) a (by decide +kernel) R ?_)
 refine eM (P:=λu=>True) (by rw [afA,p];rfl) (λx u=>(ay _ (.inr (.inl rfl)) (af4 rfl))) ?_
 refine agq (M S _ y h f s r N E R T _ λB dk val dn cL bZ h k X l=>?_) (fz p)
 refine ahf ⟨trivial,?_⟩;refine i4 l h f λz t u h=>?_
 induction z using afF with
 |negSucc=>exact bO h f
 |ofNat n=>
  refine ae (aS h f) ?_;clear h f;intro g h;have g:n<=1000:=aer g;refine Ee j k g λI h' Z cw hk C f5 hit=>?_
  have D:=Walks.range (prog:=W.prog) (w:=W.w) (A:=A) G.handled I 0 1 n;have KT:=Hx (agz (target:=target) D λi B s Q E st q=>EA (W:=W) st q)
  refine aL C ?_;clear C;intro o ho;have bW:=k.own j (own:=[(I,o)]) (t:=Z) hk (λqb x=>by rw [aev.mp x];exact ⟨ho,f5⟩) (afe _ _)
  refine V _ none _ _ _ _ _ h (λi e=>by exact aT e) X k.bt ⟨[(I,o)],[I],[I],rj n,_,_,_,by rw [zQ];exact KT,?_,λs Q E st q=>D.self 0 s Q E st q,bW,hit,λb a=>a,λi h st b a=>?_,λb a=>.inl a,SV,by rw [zQ];exact g⟩
  ·intro i B h F;refine Lz F ?_;clear F;intro hi t' bj;subst bj;refine (ay _ (F2 hi) (λr N qc l=>?_))
   rw [show (0:Int)+(i:Int)*1=(i:Int) from (Int.zero_add _).trans (Int.mul_one _)];exact l.tok rfl
  ·have ig:b=I:=aev.mp a;subst ig;exact ⟨_,st⟩
theorem SW{E:ael->aep->Prop}{Q:Unit->aep->Prop}(a:iO s.heap I t i) (h:Q () s):
    WP W A (agY target (.ref I) v) Q E s:=by
  refine cK a ?_;clear a;intro o c d b;unfold agY;induction target using afK<;>first
    | exact aey h
    | (induction v using afo<;>first
        | exact aey h
        | (refine aek (ajp c ?_)
           rw[d,b];exact aey h))
noncomputable def rk (a:Ev):iW:=λc k=>a c λv c=>cF .no v λl=>aN .no (and (short l) (ae1 l)) (k l.reverse none c)
theorem F3 (D:ak c) (F:aP c d A) (R:SR c σ s α N) (m:dH c σ α N b o) (G:o.cls=.type "tuple") (H:o.data=.seq vs.toArray n) (p:ah W.kt α N vs l) (L:short l=true) (e:ae1 l=true)
  {Q:ael->aep->Prop} {E:ael->aep->Prop} (k:∀ I r,BI c A target l.reverse σ r α N I->Q (.ref I) r):WP W A (call (.type "reversed") [.ref b]) (λx P=>WP W A (aiC x) Q E P) E s:=by
 have a:=m.at (M:=c.ax) .refl R;have S:=aeS a;have T:b≠s.heap.objs.size:=aeN S;have t:=zP p L;have u:s.heap.IsTuple b vs.toArray:=(fC o a G n H);have y:((vs.toArray.size:Nat):Int)<2^62:=Int.lt_of_le_of_lt (Int.ofNat_le.mpr (show vs.length<=1000 from t)) (by decide)
 refine O5 u (aiL y (by decide)) ?_
 have z:iO (s.heap.push (tB b ((vs.toArray.size:Int)-1))) s.heap.objs.size b ((vs.toArray.size:Int)-1):=(dJ _ (aeJ _ rfl) rfl rfl);refine F0 z ?_;have V:SR (c.with ([(s.heap.objs.size,tB b ((vs.toArray.size:Int)-1))]++c.ax)) σ {s with heap:=s.heap.push (tB b ((vs.toArray.size:Int)-1)),toks:=s.toks+1+1} α N:=R.own D (λb o q=>aeq _ q) (λqb e=>by
  rw [aev.mp e];exact ⟨aeJ _ rfl,aeD _⟩) (afe _ _)
 have B:=UY (prog:=W.prog) (w:=W.w) F.handled s.heap.objs.size b T vs.toArray y;have KT:=Hx (agz (target:=target) B λi v s Q E st q=>SW (W:=W) st.2.1 q)
 have f:vs.toArray.size=vs.reverse.length:=ahV.symm;rw [f]at KT;refine k _ _ ⟨[(s.heap.objs.size,_)],_,_,vs.reverse,_,_,_,KT,?_,λs Q E st q=>B.self 0 s Q E (by rw [f];exact st) q,V,?_,λb a=>a,λi h st b a=>?_,λx g=>?_,p.rev e,aeE (agh ahV) t⟩
 ·intro i v h C;refine ae C ?_;clear C;intro X Z;exact (ay v ((List.getElem?_reverse (ahV▸X)).trans (afx.symm.trans (ahV▸Z))) (λj j j h=>h))
 ·refine (bH (afj _) ?_ (u.at λo qa=>aeq _ qa))
  rw [←f,show (vs.toArray.size:Int)-1-((0:Nat):Int)=(vs.toArray.size:Int)-1 from Int.sub_zero _];exact z
 ·have ig:b=s.heap.objs.size:=aev.mp a;subst ig;refine Y st.2.1 ?_;clear st;intro o ho j;exact ⟨o,ho⟩
 ·rcases aeA.mp g with rfl|g
  ·exact .inl (.head _)
  ·rw [aev.mp g];exact .inr ⟨o,m⟩
theorem U0 (b:ak c) (k:aP c d A){target e:aeM}{w:Nat}{l:Ev}(m:aeH e=false) (x:c.scope.names[w]?=some (("reversed" :Str),ae5)) (z:W.G.boot "reversed" =true) (B:aE c A e l): tz c A target (.Call (.Name "reversed" Z) [e] [] pos) (rk l):=by
 intro C qa y h f s D N E R o qb p;refine Call_ (jY (v:=.type "reversed") b x (by decide) z (by decide +kernel) R ?_)
 refine eM (P:=λF=>True) (by rw [afA,m];rfl) (λj F=>(ay _ (.inr (.inl rfl)) (af4 rfl))) ?_
 refine agq (B C _ y h f s D N E R o _ λv dk val dn cL bZ h g q G=>?_) (fz m)
 refine ahf ⟨trivial,?_⟩;refine Y (dP h f) ?_;clear h o;intro qc H h;subst H;refine ae (aS h f) ?_;clear h f;intro t h;refine ae (aei.mp t) ?_;clear t;intro u j;rcases G.inv with ⟨a,qd,L,n,e,M,Q,S,T,r⟩|⟨a,L,n,sl,e,V,r⟩
 ·subst e;exact F3 b k g (.inr ⟨M,.inl Q⟩) S.1 T r u j λI X K=>p _ none _ _ _ _ _ h (λi e=>nomatch e) q g.bt K
 ·subst e;exact F3 b k g (.inl (b.aZ _ _ V)) rfl rfl r u j λI X K=>p _ none _ _ _ _ _ h (λi e=>nomatch e) q g.bt K
end
section
section
variable{prog:ae9}{w:afq}{A:ae6}{E:ael->aep->Prop}{s:aep}
noncomputable abbrev xB(h:afm)(a:aez):Heap:=h.push {cls:=.type "tuple_iterator",data:=.fields #[.ref a,.int 0 0]}
noncomputable abbrev xC(h:afm)(a b:aez):Heap:=(xB h a).push {cls:=.type "tuple_iterator",data:=.fields #[.ref b,.int 0 0]}
noncomputable abbrev xD (h:afm)(a b:aez):Heap:=(xC h a b).push {cls:=.type "tuple",data:=.seq #[.ref h.objs.size,.ref (xB h a).objs.size]}
noncomputable abbrev xE(h:afm)(a b:aez):Heap:=(xD h a b).push {cls:=.type "tuple",data:=.seq #[.none,.none]}
noncomputable abbrev oV (h:afm)(a b:aez):Heap:=(xE h a b).push {cls:=.type "zip",data:=.fields #[.none,.bool false,.bool false,.ref (xC h a b).objs.size,.ref (xD h a b).objs.size]}
theorem Pw (a b:aez) (c f:Array ael):
  Meets (Builtin.«zip.__new__» ⟨[.type "zip",.ref a,.ref b],[]⟩) (λn R s=>s.heap.IsTuple a c/\s.heap.IsTuple b f/\
   R (.ok (.ret (.ref (xE s.heap a b).objs.size))) {s with heap:=oV s.heap a b}):=
 .of_wp λprog w A R s h=>by
  obtain ⟨E,g,d,i,os⟩:=s;refine bU h ?_;clear h;intro j k h;have p:=sub_zip;have l:Heap.IsTuple (Shared.heap ⟨E,g,d,i,os⟩) a c:=j;have m:Heap.IsTuple (Shared.heap ⟨E.push {cls:=.type "tuple_iterator",data:=.fields #[.ref a,.int 0 0]},g,d,i,os⟩) b f:=Heap.IsTuple.at k λo e=>aeq _ e
  wp_walk using agj l,agj m;exact (ay _ rfl h)
theorem D6 {Q:ael->aep->Prop}(m:s.heap.IsTuple a n) (p:s.heap.IsTuple b q) (h:∀ h',agZ h' (s.heap.objs.size+4) (s.heap.objs.size+2) (s.heap.objs.size+3) .none->afL h' (s.heap.objs.size+2) (.ref s.heap.objs.size) (.ref (s.heap.objs.size+1))-> afL h' (s.heap.objs.size+3) .none .none->h'.IsTupleIter s.heap.objs.size a 0->h'.IsTupleIter (s.heap.objs.size+1) b 0->h'.objs.size=s.heap.objs.size+5-> (∀ c o,s.heap.get? c=some o->h'.get? c=some o)->Q (.ref (s.heap.objs.size+4)) {s with heap:=h'}): aeO (aeR prog w) A (call (.type "zip") [.ref a,.ref b]) Q E s:=by
 refine callType_new F.called_zip (by decide) (F.typeCall_zip_2 _ _) (F.newCall_zip_2 _ _) (λr=>F.args_object_init_3 r _ _) F.entry_zip_new (Pw a b n q) (bH m p ?_)
 have d:(xB s.heap a).objs.size=s.heap.objs.size+1:=af9 ..;have e:(xC s.heap a b).objs.size=s.heap.objs.size+2:=by rw [af9,d]
 have f:(xD s.heap a b).objs.size=s.heap.objs.size+3:=by rw [af9,e]
 have g:(xE s.heap a b).objs.size=s.heap.objs.size+4:=by rw [af9,f]
 have t:(oV s.heap a b).objs.size=s.heap.objs.size+5:=by rw [af9,g]
 have i:(oV s.heap a b).get? (xE s.heap a b).objs.size=some _:=aeJ _ rfl;have j:(oV s.heap a b).get? (xD s.heap a b).objs.size=some _:=aeq _ (aeJ _ rfl);have k:(oV s.heap a b).get? (xC s.heap a b).objs.size=some _:=aeq _ (aeq _ (aeJ _ rfl));have l:(oV s.heap a b).get? (xB s.heap a).objs.size=some _:=aeq _ (aeq _ (aeq _ (aeJ _ rfl)));have u:(oV s.heap a b).get? s.heap.objs.size=some _:=aeq _ (aeq _ (aeq _ (aeq _ (aeJ _ rfl))));show _/\_;rw [e,f,g]at i;rw [d,e]at k;rw [f]at j;rw [d]at l;rw [g];exact⟨(ay _ i rfl),h _ i k j (dJ _ u rfl rfl) (dJ _ l rfl rfl) t λc o x=> aeq _ (aeq _ (aeq _ (aeq _ (aeq _ x))))⟩
end
variable{W:Wd}{c:Cx W}{A:ae6}{d:Nat}
theorem Ae (u:ak c) (w:c.comp=none) (x:aP c d A){P z:Nat->ael->afm->Prop}{St:Nat->afm->Prop} (KT:KTurns W.prog W.w A target I B wr l.length P z St) (C:∀ M,(∀ p∈c.ax,p∈M)->cA (c.with M) A body D) (F:∀ M,(∀ p∈c.ax,p∈M)->nr (c.with M) A target G) (R:SR (c.with (own++c.ax)) σ s α N) (H:St 0 s.heap) (fq:∀ b∈wr,b∈own.map (·.1)) (L:∀ i h,St i h->∀ b∈own.map (·.1),∃ o,h.get? b=some o) (S:∀ b∈B,b∈own.map (·.1)\/∃ o,dH c σ α N b o) (n:∀ i v h,P i v h->∀ a,l[i]?=some a->CC W α N h v a) {kn:LS->Rs}(h:ey G D l σ kn kr=y) (j:y≠.no){E:ael->aep->Prop}(k:bS c y σ α N E){Q:Flow->aep->Prop}(T:gs c y σ α N kn Q) (V:gu c y σ α N kr Q): agk (aeR W.prog W.w) A (.forLoop target (.ref I) body [] c.env) (λr m=>match r with|.ok f=>Q f m|.error e=>agS (aeR W.prog W.w) A c.env E e m) s:=by
 refine sj u w x KT C R H fq L S (λM X i v a bu m bG N' q t Z g qb y h j E k Q hQ=>?_) h j k T V
 refine gC (n i v _ t a q) ?_;clear n t q;intro qa vs as e1 e2 e3 e4;exact F M X _ _ _ _ h j _ _ _ _ _ Z k (l8 qa vs as e1 e2 e3 (e4.mono g.ge)) Q hQ
noncomputable def j7 (l:List O):Nat->List O:=aeL (motive:=λc=>Nat->List O) (λc=>[]) (λa c d i=>.tup [.int (afB i),a]::d (afk i)) l
theorem zx:∀ {l:List O}{i:Nat},(j7 l i).length=l.length
 |[],a=>rfl
 |a::l,i=>congrArg (·+1) (zx (l:=l) (i:=i+1))
theorem SX:∀ {i j:Nat}{a:O},(j7 l i)[j]?=some a->∃ b,l[j]?=some b/\a=.tup [.int (afB (i+j)),b]:=by
 induction l with
 |nil=>intro i j a h;exact aT (show none=some a from h)
 |cons b l d=> intro i j a h;induction j using aeI with
  |zero=>have f:=aej h;clear h;subst a;exact⟨b,rfl,rfl⟩
  |succ j=>
  have c:(j7 l (i+1))[j]?=some a:=h;refine Y (d c) ?_;clear c;intro A W e;exact (ay A W (by rw [e,show i+1+j=i+(j+1) by omega]))
noncomputable def rl (l:List O):List O->List O:=aeL (motive:=λc=>List O->List O) (λc=>[]) (λa c d r=>match r with
 |[]=>[]
 |b::r=>.tup [a,b]::d r) l
theorem E7:∀ {l r:List O},l.length=r.length->(rl l r).length=l.length
 |[],[],a=>rfl
 |a::l,b::r,h=>congrArg (·+1) (E7 (af0 h))
theorem F4:∀ {l r:List O}{j:Nat}{a:O},(rl l r)[j]?=some a->∃ x y,l[j]?=some x/\r[j]?=some y/\a=.tup [x,y]
 |[],r,j,a,h=>by have h':([]:List O)[j]?=some a:=h;simp at h'
 |c::d,[],j,a,h=>by have h':([]:List O)[j]?=some a:=h;simp at h'
 |x::l,y::r,0,a,h=>by have A:=aej h;clear h;subst a;exact⟨x,y,rfl,rfl,rfl⟩
 |x::l,y::r,j+1,a,h=>F4 (l:=l) (r:=r) h
end
section
variable{W:Wd}{c:Cx W}{A:ae6}{d:Nat}
theorem vH (P:ak c) (hn:c.comp=none) (S:aP c d A) (rD:∀ M,(∀ p∈c.ax,p∈M)->nr (c.with M) A (.Tuple elts kk V) tg) (ij:∀ M,(∀ p∈c.ax,p∈M)->cA (c.with M) A body cb)
  (R:SR c σ s α N) (er:dH c σ α N b o) (C:o.cls=.type "tuple" \/o.cls=.type "list") (hd:o.data=.seq vs.toArray n) (X:ah W.kt α N vs l) (z:ae1 l=true)
  {kn:LS->Rs} (h:ey tg cb (j7 l 0) σ kn kr=y) (hy:y≠.no) {E:ael->aep->Prop} (hE:bS c y σ α N E) {Q:Flow->aep->Prop} (cX:gs c y σ α N kn Q) (cY:gu c y σ α N kr Q):
  WP W A (call (.type "enumerate") [.ref b]) (λx dn=>WP W A (aiC x) (λit eb=>agk (aeR W.prog W.w) A (.forLoop (.Tuple elts kk V) it body [] c.env) (λr s'=>match r with|.ok f=>Q f s'|.error e=>agS (aeR W.prog W.w) A c.env E e s') eb) E dn) E s:=by
 have a:=er.at (M:=c.ax) .refl R
 have bN:=aeS a
 have hlen:=X.len z
 have D:∀ (i:Nat) v (h:afm),(∃ T Z,v=.ref T/\(∃ qa x,vs.toArray[i]?=some x/\Z=#[.int i qa,x])/\h.IsTuple T Z)->∀ qb,(j7 l 0)[i]?=some qb->CC W α N h v qb:=by
  intro i v h D qb ha
  refine aH D ?_;clear D;intro T Z g;subst g;intro F hT;obtain ⟨qa,x,j,rfl⟩:=F
  refine Y (SX ha) ?_;clear ha;intro b' m g;subst g
  refine Y (X.at z i b' m) ?_;clear X;intro v' q1 q2
  obtain rfl:=aej (q1.symm.trans (afx.symm.trans j))
  refine (l8 T [.int i qa,v'] _ rfl hT rfl (.cons ?_ (.cons q2 .nil)))
  rw [ahh]
  exact .int _ _
 have new:∀ {B:afm} {oe L:Obj},B.get? (s.heap.objs.size+1)=some oe->B.get? s.heap.objs.size=some L->(∀ b o,s.heap.get? b=some o->B.get? b=some o)->SR (c.with ([(s.heap.objs.size+1,oe),(s.heap.objs.size,L)]++c.ax)) σ {s with heap:=B,toks:=s.toks} α N:=λm G t=>R.own P t (λp z=>by
  rcases aeA.mp z with rfl|z
  ·exact ⟨m,af7 _⟩
  ·rw [aev.mp z];exact ⟨G,aeD _⟩) (ae3.mpr ⟨λq=>ahg _ (aev.mp q),afe _ _⟩)
 have ik:∀ x∈[s.heap.objs.size+1,s.heap.objs.size,b],x∈[s.heap.objs.size+1,s.heap.objs.size]\/∃ o,dH c σ α N x o:=λx j=>by
  rcases aeA.mp j with rfl|j
  ·exact .inl (.head _)
  ·rcases aeA.mp j with rfl|j
   ·exact .inl (.tail _ (.head _))
   ·rw [aev.mp j];exact .inr ⟨o,er⟩
 have eT:b≠s.heap.objs.size:=aeN bN
 have LQ:b≠s.heap.objs.size+1:=aeN (afg bN)
 have NJ:A.in1.handled=none:=S.handled
 rcases C with C|C
 ·have H:s.heap.IsTuple b vs.toArray:=(fC o a C n hd)
  refine Pj H λB u I ed t=>wpAny_pyIter_enum u ?_
  have qc:=pO (prog:=W.prog) (w:=W.w) NJ s.heap.objs.size b eT vs.toArray
  have KT:=KTurns.ofWalksU (elts:=elts) (k:=kk) (pos:=V) (WalksT.enumerateD qc (s.heap.objs.size+1) (ahg _) (λq=>(aeA.mp q).elim (ahg _) λq=>LQ (aev.mp q).symm) (.head _)).toU
  rw [show vs.toArray.size=(j7 l 0).length from hlen.trans zx.symm] at KT
  refine cK (id I) λL yD uN uO=>?_
  refine Ae P hn S KT ij rD (new u yD t) (bH ⟨_,u⟩ I (H.at λo e=>t _ _ e)) (λb a=>a) (λi h st b a=>?_) ik D h hy hE cX cY
  refine bU st ?_;clear st;intro g F u_;obtain ⟨old,m⟩:=g;obtain ⟨o2,G,_⟩:=F
  rcases aeA.mp a with rfl|a
  ·exact ⟨_,m⟩
  ·have e:b=s.heap.objs.size:=aev.mp a
   subst e
   exact ⟨_,G⟩
 ·have H:s.heap.IsList b vs.toArray:=(fC o a C n hd)
  refine call_enumerate_list H λB u I ed t=>wpAny_pyIter_enum u ?_
  have qc:=Draws.list (prog:=W.prog) (w:=W.w) NJ s.heap.objs.size b eT vs.toArray
  have KT:=KTurns.ofWalksU (elts:=elts) (k:=kk) (pos:=V) (WalksT.enumerateD qc (s.heap.objs.size+1) (ahg _) (λq=>(aeA.mp q).elim (ahg _) λq=>LQ (aev.mp q).symm) (.head _)).toU
  rw [show vs.toArray.size=(j7 l 0).length from hlen.trans zx.symm] at KT
  refine cK (id I) λL yD uN uO=>?_
  refine Ae P hn S KT ij rD (new u yD t) (bH ⟨_,u⟩ I (H.at λo e=>t _ _ e)) (λb a=>a) (λi h st b a=>?_) ik D h hy hE cX cY
  refine bU st ?_;clear st;intro g F u_;obtain ⟨old,m⟩:=g;obtain ⟨o2,G,_⟩:=F
  rcases aeA.mp a with rfl|a
  ·exact ⟨_,m⟩
  ·have e:b=s.heap.objs.size:=aev.mp a
   subst e
   exact ⟨_,G⟩
noncomputable def oa (a:Tg) (e:Ev) (b:Sc):Sc:=λc kn d=>e c λv c=>cF (lq (d0 .no c.st v λi o=>gF .no o λl=>aN .no (ae1 l) (xr i (ey a b (j7 l (nat_lit 0))) c kn d)) v λl=>aN .no (ae1 l) (ey a b (j7 l (nat_lit 0)) c kn d)) v λl=>aN .no (ae1 l) (ey a b (j7 l (nat_lit 0)) c kn d)
theorem Rj (j:ak c) (k:c.comp=none) (m:aP c d A){e:aeM}{elts:List aeM}{kk:Nat}{N:Nat}{E:Tg}{F:Ev}{G:Sc}(H:aeH e=false) (Q:c.scope.names[N]?=some (("enumerate" :Str),ae5)) (S:W.G.boot "enumerate" =true)
  (T:aE c A e F) (o:∀ M,(∀ p∈c.ax,p∈M)->nr (c.with M) A (.Tuple elts kk V) E) (q:∀ M,(∀ p∈c.ax,p∈M)->cA (c.with M) A body G):
  bQ c A (.For (.Tuple elts kk V) (.Call (.Name "enumerate" rp) [e] [] cp) body [] pos) (oa E F G):=by
 intro X kn kr y h b s Z qa qb R I qc cX cY
 refine wpAny_For ?_ (pU rfl c.env)
 refine Call_ (jY (v:=.type "enumerate") j Q (by decide) S (by decide +kernel) R ?_)
 refine eM (P:=λu_=>True) (by rw [afA,H];rfl) (λg u_=>(ay _ (.inr (.inl rfl)) (af4 rfl))) ?_
 refine agq (T X _ y h b s Z qa qb R I _ λv dk val dn cL bZ h f x z=>?_) (fz H)
 refine ahf ⟨trivial,?_⟩
 have t:=I.step x.kp
 have u:=cX.step x.toSts
 have w:=cY.step x.toSts
 rcases l9 h with h|⟨l,rfl,h⟩
 ·rcases vL h with h|⟨l,rfl,h⟩
  ·refine pN f z h b λi a l B n L h2 r h=>?_
   refine ae (aS h b) ?_;clear h;intro g h
   exact vH j k m o q (f.bf (f.lt L)) (.inr ⟨h2,.inr (ay i (.head _) L)⟩) (.inr rfl) rfl r g h b (t.bf i) (u.bf f i) (w.bf f i)
  ·refine ae (aS h b) ?_;clear h;intro g h
   refine gC z.inv ?_;intro a B n bj C D r;subst bj
   exact vH j k m o q f (.inr ⟨C,.inl D⟩) (.inr rfl) rfl r g h b t u w
 ·refine ae (aS h b) ?_;clear h;intro g h
  rcases z.inv with ⟨a,qd,B,n,e,C,D,e1,e2,r⟩|⟨a,B,n,sl,e,hl,r⟩
  ·subst e;exact vH j k m o q f (.inr ⟨C,.inl D⟩) (.inl e1.1) e2 r g h b t u w
  ·subst e;exact vH j k m o q f (.inl (j.aZ _ _ hl)) (.inl rfl) rfl r g h b t u w
theorem nD{a b c:aez}(h:a≠b)(h':a≠c):a∉[b,c]:=λq=>(aeA.mp q).elim h λq=>h' (aev.mp q)
theorem iI (S:Nat){i j:Nat}(h:i≠j):S+i≠S+j:=λe=>h (Nat.add_left_cancel e)
theorem mH{b S:Nat}(h:b<S)(i:Nat):S+i≠b:=λe=>absurd h (aft.mpr (e▸ae0 _ _))
theorem Af{S e f:Nat}(a:e<S) (b:f<S):lP (S+4) (S+2) (S+3) S (S+1) [S,e] [S+1,f]:=
 ⟨iI S (by decide),iI S (by decide),iI S (by decide),nD (iI S (j:=0) (by decide)) (mH a _),nD (iI S (by decide)) (mH b _),nD (iI S (j:=0) (by decide)) (mH a _),nD (iI S (by decide)) (mH b _),nD (iI S (j:=0) (by decide)) (mH a _),nD (iI S (by decide)) (mH b _),.head _,.head _, nD (iI S (i:=0) (by decide)) (mH b 0),nD (iI S (j:=0) (by decide)) (mH a _)⟩
theorem rI{b:Type}{p:b->Prop}{a:b}(h:p a):∀ x∈[a],p x:=λx c=>aev.mp c▸h
theorem eV{b:Type}{p:b->Prop}{a:b}{l:List b}(h:p a) (r:∀ x∈l,p x):∀ x∈a::l,p x:=λx c=>(aeA.mp c).elim (λe=>e▸h) (r x)
theorem abG (S:Nat):[S+4,S+2,S+3,S,S+1].Nodup:=List.Pairwise.map (S+·) (λc c h=>iI S h) (show[4,2,3,0,1].Nodup by decide)
theorem E8 (B:ak c) (hn:c.comp=none) (hA:aP c d A) (rD:∀ M,(∀ p∈c.ax,p∈M)->nr (c.with M) A (.Tuple elts kk C) tg) (ij:∀ M,(∀ p∈c.ax,p∈M)->cA (c.with M) A body cb)
  (R:SR c σ s α N) (D:dH c σ α N F o1) (G:dH c σ α N H o2) (k:ah W.kt α N l a) (m:ae1 a=true) (n:ah W.kt α N q t) (u:ae1 t=true) (I:a.length=t.length)
  {L P:Nat->afm->Prop} (b:ahK W.prog W.w A.in1 s.heap.objs.size [s.heap.objs.size,F] l.toArray.size (λi v=>l.toArray[i]?=some v) L) (e:ahK W.prog W.w A.in1 (s.heap.objs.size+1) [s.heap.objs.size+1,H] q.toArray.size (λi v=>q.toArray[i]?=some v) P)
  (T:agZ h' (s.heap.objs.size+4) (s.heap.objs.size+2) (s.heap.objs.size+3) .none) (V:afL h' (s.heap.objs.size+2) (.ref s.heap.objs.size) (.ref (s.heap.objs.size+1)))
  (X:afL h' (s.heap.objs.size+3) .none .none) (Z:L 0 h') (NK:P 0 h') (hk:∀ c o,s.heap.get? c=some o->h'.get? c=some o)
  {kn:LS->Rs} (h:ey tg cb (rl a t) σ kn kr=y) (hy:y≠.no) {E:ael->aep->Prop} (hE:bS c y σ α N E) {Q:Flow->aep->Prop} (cX:gs c y σ α N kn Q) (cY:gu c y σ α N kr Q):
  agk (aeR W.prog W.w) A (.forLoop (.Tuple elts kk C) (.ref (s.heap.objs.size+4)) body [] c.env) (λr s'=>match r with|.ok f=>Q f s'|.error qa=>agS (aeR W.prog W.w) A c.env E qa s') {s with heap:=h',toks:=s.toks}:=by
 have oW:=aeS (D.at (M:=c.ax) .refl R)
 have oX:=aeS (G.at (M:=c.ax) .refl R)
 generalize hS:s.heap.objs.size=S at*
 have qb:lP (S+4) (S+2) (S+3) S (S+1) [S,F] [S+1,H]:=Af oW oX
 have w:l.toArray.size=a.length:=k.len m
 have x:q.toArray.size=a.length:=(n.len u).trans I.symm
 rw [w] at b
 rw [x] at e
 have KT:=SN b e qb (elts:=elts) (kk:=kk) (pos:=C)
 rw [←E7 I] at KT
 refine aL (b.live _ _ Z) λoi1 uN=>?_
 refine aL (e.live _ _ NK) λoi2 uO=>?_
 have R':SR (c.with ([(S+4,_),(S+2,_),(S+3,_),(S,oi1),(S+1,oi2)]++c.ax)) σ {s with heap:=h',toks:=s.toks} α N:=R.own B hk (by rw [hS];exact eV ⟨T,ae0 _ _⟩ (eV ⟨V,ae0 _ _⟩ (eV ⟨X,ae0 _ _⟩ (eV ⟨uN,aeD _⟩ (rI ⟨uO,ae0 _ _⟩))))) (abG S)
 refine Ae B hn hA KT ij rD R' (vA _ _ T V X Z NK) (eV (.head _) (eV (.tail _ (.tail _ (.head _))) (eV (.tail _ (.tail _ (.tail _ (.head _)))) (rI (.tail _ (.tail _ (.tail _ (.tail _ (.head _))))))))) (λi h st=>?_)
  (eV (.inl (.head _)) (eV (.inl (.tail _ (.head _))) (eV (.inl (.tail _ (.tail _ (.head _)))) (eV (.inl (.tail _ (.tail _ (.tail _ (.head _))))) (eV (.inr ⟨_,D⟩) (eV (.inl (.tail _ (.tail _ (.tail _ (.tail _ (.head _)))))) (rI (.inr ⟨_,G⟩)))))))) ?_ h hy hE cX cY
 ·refine kJ st ?_;clear st;intro qc b' g j q3 q4 q5
  exact eV ⟨_,g⟩ (eV ⟨_,j⟩ (eV ⟨_,q3⟩ (eV (b.live _ _ q4) (rI (e.live _ _ q5)))))
 ·intro i v h hP qc ha
  refine gC hP ?_;clear hP;intro qd qe y' z hx hy' hp;subst z
  refine aH (F4 ha) ?_;clear ha;intro x' y'' g j z;subst z
  refine Y (k.at m i x' g) ?_;clear k m g;intro v1 r1 r2
  refine Y (n.at u i y'' j) ?_;clear n u j;intro v2 r3 r4
  have w:=aej (r1.symm.trans (afx.symm.trans hx))
  have x:=aej (r3.symm.trans (afx.symm.trans hy'))
  exact (l8 qd [qe,y'] _ rfl (fC _ hp rfl _ rfl) rfl (.cons (w▸r2) (.cons (x▸r4) .nil)))
theorem sz (S:ak c) (T:c.comp=none) (m:aP c d A) (V:∀ M,(∀ p∈c.ax,p∈M)->nr (c.with M) A (.Tuple elts kk BK) tg) (X:∀ M,(∀ p∈c.ax,p∈M)->cA (c.with M) A body cb)
  (R:SR c σ s α N) (n:dH c σ α N q b) (t:dH c σ α N u g) (tQ:(b.cls=.type "tuple" /\g.cls=.type "tuple")\/(b.cls=.type "list" /\g.cls=.type "list")) (uP:b.data=.seq v.toArray Z) (hd2:g.data=.seq w.toArray n2)
  (LR:ah W.kt α N v z) (NL:ae1 z=true) (LU:ah W.kt α N w B) (NM:ae1 B=true) (hlen:z.length=B.length)
  {kn:LS->Rs}(h:ey tg cb (rl z B) σ kn kr=y) (hy:y≠.no){E:ael->aep->Prop}(hE:bS c y σ α N E){Q:Flow->aep->Prop}(cX:gs c y σ α N kn Q) (cY:gu c y σ α N kr Q):
  WP W A (call (.type "zip") [.ref q,.ref u]) (λx dn=>WP W A (aiC x) (λit eb=>agk (aeR W.prog W.w) A (.forLoop (.Tuple elts kk BK) it body [] c.env) (λr s'=>match r with|.ok f=>Q f s'|.error e=>agS (aeR W.prog W.w) A c.env E e s') eb) E dn) E s:=by
 have C:=n.at (M:=c.ax) .refl R
 have D:=t.at (M:=c.ax) .refl R
 have oW:=aeS C
 have oX:=aeS D
 have l:A.in1.handled=none:=m.handled
 rcases tQ with ⟨F,G⟩|⟨F,G⟩
 ·have i:s.heap.IsTuple q v.toArray:=(fC b C F Z uP)
  have j:s.heap.IsTuple u w.toArray:=(fC g D G n2 hd2)
  refine D6 i j λh' k H I L P ed a=>ajD k ?_
  exact E8 S T m V X R n t LR NL LU NM hlen (pO l _ _ (aeN oW) _) (pO l _ _ (aeN (afg oX)) _) k H I ⟨L,i.at λo e=>a _ _ e⟩ ⟨P,j.at λo e=>a _ _ e⟩ a h hy hE cX cY
 ·have i:s.heap.IsList q v.toArray:=(fC b C F Z uP)
  have j:s.heap.IsList u w.toArray:=(fC g D G n2 hd2)
  refine call_zip_2 i j λh' k H I L P ed a=>ajD k ?_
  exact E8 S T m V X R n t LR NL LU NM hlen (Draws.list l _ _ (aeN oW) _) (Draws.list l _ _ (aeN (afg oX)) _) k H I ⟨L,i.at λo e=>a _ _ e⟩ ⟨P,j.at λo e=>a _ _ e⟩ a h hy hE cX cY
noncomputable def CU (st:Tr) (a:O):Option (List O×Option Nat):=lq (d0 none st a λi o=>gF none o λl=>some (l,some i)) a λl=>some (l,none)
noncomputable def Hy (o:Option Nat) (f:LS->(LS->Rs)->Kv->Rs):LS->(LS->Rs)->Kv->Rs:=ae2 f (λi=>xr i f) o
noncomputable def A2 (a b:List O):Bool:=and (and (ae1 a) (ae1 b)) (aew a.length b.length)
theorem E9 (h:A2 a b=true):ae1 a=true/\ae1 b=true/\a.length=b.length:=by
 refine ae (aei.mp h) ?_;clear h;intro c d;refine ae (aei.mp c) ?_;clear c;intro A W;exact (bH A W (aem d))
noncomputable def qN (e:Tg) (i j:Ev) (f:Sc):Sc:=λc kn W=>i c λa c=>j c λb c=>cF (aD .no (CU c.st a) λd=>aD .no (CU c.st b) λA=>aN .no (A2 d.1 A.1) (Hy d.2 (Hy A.2 (ey e f (rl d.1 A.1))) c kn W)) a
 λg=>cF .no b λh=>aN .no (A2 g h) (ey e f (rl g h) c kn W)
theorem dH.bf (h:dH c σ α N b o) (i:Nat):dH c (σ.bf i) α N b o:=by
 rcases h with h|⟨h,d⟩
 ·exact .inl h
 ·refine .inr ⟨h,?_⟩;rcases d with d|⟨j,A,e⟩
  ·exact .inl d
  ·exact .inr (ay j (.tail _ A) e)
theorem zS (f:ak c) (g:VR W.kt α N v (.tup l)):∃ b o vs n,dH c σ α N b o/\o.cls=.type "tuple" /\o.data=.seq vs.toArray n/\ah W.kt α N vs l/\v=.ref b:=by
 rcases g.inv with ⟨a,o,vs,n,e,d,A,h,i,r⟩|⟨a,vs,n,k,e,j,r⟩
 ·exact (zi a o vs n (.inr ⟨d,.inl A⟩) h.1 i r e)
 ·exact (zi a _ vs n (.inl (f.aZ _ _ j)) rfl rfl r e)
theorem GI (R:SR c σ s α N) (f:VR W.kt α N v a) (h:CU σ.st a=some (l,oi)): ∃ b o vs n,v=.ref b/\o.cls=.type "list" /\o.data=.seq vs.toArray n/\ah W.kt α N vs l/\(∀ i,oi=some i->i<σ.n)/\dH c (fH oi σ) α N b o:=by
 rcases vL h with h|⟨A,rfl,h⟩
 ·refine pN R f h aO λi x A vs n d g r h=>?_
  cases aej h
  exact (vm _ _ _ _ rfl rfl rfl r (λi e=>aej e▸R.lt d) (.inr ⟨g,.inr (ay i (.head _) d)⟩))
 ·cases aej h;refine gC f.inv ?_;clear f;intro a vs n j k m r;subst j;exact (vm _ _ _ _ rfl rfl rfl r (λi e=>nomatch e) (.inr ⟨k,.inl m⟩))
theorem SR.fH (R:SR c σ s α N) (h:∀ i,oi=some i->i<σ.n):SR c (fH oi σ) s α N:=by
 induction oi using aeB with
 |none=>exact R
 |some i=>exact R.bf (h i rfl)
theorem SY (f:ak c) (u:c.comp=none) (w:aP c d A){x y:aeM}{elts:List aeM}{kk:Nat}{nn:Nat}{tg:Tg}{c1 c2:Ev}{cb:Sc}(LV:aeH x=false) (LW:aeH y=false) (hx:c.scope.names[nn]?=some (("zip" :Str),ae5)) (hb:W.G.boot "zip" =true)
  (CV:aE c A x c1) (CW:aE c A y c2) (z:∀ M,(∀ p∈c.ax,p∈M)->nr (c.with M) A (.Tuple elts kk BK) tg) (B:∀ M,(∀ p∈c.ax,p∈M)->cA (c.with M) A body cb):
  bQ c A (.For (.Tuple elts kk BK) (.Call (.Name "zip" rp) [x,y] [] cp) body [] pos) (qN tg c1 c2 cb):=by
 intro σ kn kr qb h a qe α qf qc qd L qh cX cY
 refine wpAny_For ?_ (pU rfl c.env)
 refine Call_ (jY (v:=.type "zip") f hx (by decide) hb (by decide +kernel) qd ?_)
 refine eM (P:=λu_=>True) (by rw [afA,afA,LV,LW];rfl) (λC u_=>(ay _ (.inr (.inl rfl)) (af4 rfl))) ?_
 refine agq (CV σ _ qb h a qe α qf qc qd L _ λqi dk Wy dn cL bZ h dq N tC=>?_) (fz LV)
 refine agq (CW dk _ qb h a dn cL bZ qc dq (L.step N.kp) _ λqj D Wz eb ek dK h b Q lb=>?_) (fz LW)
 refine ahf ⟨trivial,?_⟩
 have E:=(L.step N.kp).step Q.kp
 have F:=(cX.step N.toSts).step Q.toSts
 have G:=(cY.step N.toSts).step Q.toSts
 have Az:=tC.mono Q.ge
 rcases l9 h with h|⟨l1,rfl,R⟩
 rotate_left
 ·refine Y (dP R a) ?_;clear L cX cY;intro l2 e S;subst e
  refine ae (aS S a) λC h4=>?_
  refine bU (E9 C) λk l m=>?_
  refine ir (zS f (σ:=D) Az) λb1 H CX n1 T n o q x=>?_
  refine ir (zS f (σ:=D) lb) λb2 g uQ n2 I r s t y=>?_
  subst x y
  exact sz f u w z B b T I (.inl ⟨n,r⟩) o s q k t l m h4 a E F G
 ·refine Y (aR h a) λe NO R=>?_;obtain ⟨l1,H⟩:=e
  refine Y (aR R a) ?_;clear R;intro e NP S;obtain ⟨l2,g⟩:=e
  refine ae (aS S a) ?_;clear S;intro C h
  refine bU (E9 C) ?_;clear C;intro k l m
  refine zf (GI b Az NO) ?_;clear Az NO tC;intro b1 ob1 CX n1 e n o q i1 T;subst e
  refine zf (GI b lb NP) ?_;clear lb NP;intro b2 ob2 uQ n2 e r s t i2 I;subst e
  have bW:=b.fH i1
  have V:dH c (fH g (fH H D)) ek dK b2 ob2:=by
   induction H using aeB with
   |none=>exact I
   |some i=>
    induction g using aeB with
    |none=>exact dH.bf (σ:=D) I i
    |some j=>
     rcases I with h|⟨h,h'⟩
     ·exact .inl h
     ·refine .inr ⟨h,?_⟩
      rcases h' with h'|⟨qg,hk,qa⟩
      ·exact .inl h'
      ·refine .inr (ay qg ?_ qa)
       rcases aeA.mp hk with rfl|hk
       ·exact .head _
       ·exact .tail _ (.tail _ hk)
  have X:dH c (fH g (fH H D)) ek dK b1 ob1:=by
   induction g using aeB with
   |none=>exact T
   |some j=>exact T.bf j
  have Z:=bW.fH (oi:=g) λi qa=>by rw [GG];exact i2 i qa
  induction H using aeB with
  |none=>
   induction g using aeB with
   |none=>exact sz f u w z B Z X V (.inr ⟨n,r⟩) o s q k t l m h a E F G
   |some j=>exact sz f u w z B Z X V (.inr ⟨n,r⟩) o s q k t l m h a (E.bf j) (F.bf b j) (G.bf b j)
  |some i=>
   induction g using aeB with
   |none=>exact sz f u w z B Z X V (.inr ⟨n,r⟩) o s q k t l m h a (E.bf i) (F.bf b i) (G.bf b i)
   |some j=>exact sz f u w z B Z X V (.inr ⟨n,r⟩) o s q k t l m h a ((E.bf i).bf j) ((F.bf b i).bf bW j) ((G.bf b i).bf bW j)
noncomputable def lR (n:Nat) (l:List (Nat×O)):List (Nat×O):=aeL [] (λe d c=>aex (e::c) c (aew n e.1)) l
theorem S0:lR n (e::l)=if n=e.1 then lR n l else e::lR n l:=by
 show aex (motive:=λc=>List (Nat×O)) (e::lR n l) (lR n l) (aew n e.1)=_
 induction q:aew n e.1 using aen with
 |true=>rw[if_pos (aem q)]
 |false=>rw[if_neg λh=>by rw[h,afI]at q;exact gr q]
theorem GJ:lk j (lR n l)=some v->j≠n/\lk j l=some v:=by
 induction l with
 |nil=>exact λh=>nomatch h
 |cons e l d=>
  intro h;rw[S0]at h;rw[eD];by_cases q:n=e.1
  ·rw[if_pos q]at h;refine ae (d h) λc A=>?_
   exact⟨c,(if_neg λz=>c (z.trans q.symm)).trans A⟩
  ·rw[if_neg q,eD]at h;by_cases r:j=e.1
   ·rw[if_pos r]at h;exact⟨λz=>q (z▸r),(if_pos r).trans h⟩
   ·rw[if_neg r]at h;refine ae (d h) ?_;clear d h;intro c A;exact⟨c,(if_neg r).trans A⟩
noncomputable def LS.locs (σ:LS) (l:List (Nat×O)):LS:=LS.rec (motive:=λd=>LS) (λd c t n lo m=>⟨l,c,t,n,lo,m⟩) σ
theorem SR.locs (a:c.comp=none) (R:SR c σ s α N) (h:∀ j v,lk j l=some v->lk j σ.loc=some v):SR c (σ.locs l) s α N:=by
 refine⟨?_,R.aK,R.news,R.nodup,R.inj,R.obj,R.all,R.hi,R.wf,R.bD,R.len,R.low,R.bt,R.gens,R.os,R.aZ⟩;refine Y R.fr ?_;clear R;intro m F d;refine (ay m F ?_);unfold NR at d ⊢;rw[a]at d ⊢;exact λj v e=>d j v (h j v e)
noncomputable def CY (a:O):O:=ew a (λc a=>a) a
noncomputable def NQ (r:Rs) (b:Bool):Bool:=Rs.casesOn (motive:=λc=>Bool) r (λc=>b) (λc=>false) false
theorem WA(h:NQ r b=true):(∃ v,r=.ok v)/\b=true:=by induction r using Rs.casesOn with
 |ok v=>exact⟨⟨v,rfl⟩,h⟩
 |_=>exact aX h
noncomputable def pureE (n:Nat) (b:Ev) (σ:LS) (l:List O):Bool:=aeL true (λa d c=>NQ (b ⟨(n,CY a)::σ.loc,σ.aK,σ.st,σ.n,σ.n,σ.mark⟩ (fW σ.n)) c) l
theorem Qq (h:pureE n b σ (a::l)=true):(∃ v,b ⟨(n,CY a)::σ.loc,σ.aK,σ.st,σ.n,σ.n,σ.mark⟩ (fW σ.n)=.ok v)/\pureE n b σ l=true:=WA h
theorem S2(h:a.sure=true):CY a=a:=by
 rcases fD a with⟨c,v,rfl⟩|d
 ·exact aX h
 ·exact d _ _
theorem Qr:ah T α N (v::vs) l->pureE n f σ l=true->
  ∃ a g,VR T α N v a/\(∃ v,f ⟨(n,a)::σ.loc,σ.aK,σ.st,σ.n,σ.n,σ.mark⟩ (fW σ.n)=.ok v)/\ah T α N vs g/\pureE n f σ g=true:=by
 induction l with
 |nil=>exact λh m=>nomatch h.nil_inv
 |cons b l W=>
  intro h e;refine ae (Qq e) ?_;clear e;intro A c;rcases h.wz with ⟨i,w,j,q,d,r⟩|⟨q,a,rfl,⟨k,w,j,q,d,r⟩|⟨k,r⟩⟩
  ·cases q;exact (p8 b l d (S2 i▸A) r c)
  ·cases q;exact (p8 a l d A r c)
  ·exact W r c
noncomputable def wM (n:Nat) (a:Ev) (b:Ev):Sc:=λc kn d=>a c λv c=>cF .no v λl=>aN .no (pureE n b (c.locs (lR n c.loc)) l) (kn (c.locs (lR n c.loc)))
inductive Hz (c:Cx W) (wN:LS) (α:List aez) (N:Led) (I:aez) (St:Nat->afm->Prop) (vs:List ael) (fn:List O->Bool):Nat->aep->Prop
 |mk (i:Nat) (oI:Obj) (bG:List aez) (N':Led) (l':List O){s':aep}(R:SR (c.with ([(I,oI)]++c.ax)) wN s' bG N') (g:Sts wN α N wN bG N') (st:St i s'.heap) (hi:i<=vs.length) (hv:ah W.kt α N (vs.drop i) l') (hp:fn l'=true):Hz c wN α N I St vs fn (vs.length+1-i) s'
theorem Ta (u:ak c) (D:c.comp=none) (hA:aP c d A) (hs:hJ iter=true) (hx:c.scope.names[n]?=some (x,.local)) (wo:eK e=false) (hit:aE c A iter it) (yB:∀ M,(∀ p∈c.ax,p∈M)->aE (c.with M) A e ce):
    bQ c A (.For (.Name x xp) iter [.Expr e pe] [] pos) (wM n it ce):=by
  intro E kn kr qd h F qa α qe qb qf hE qg cX cY;refine wpAny_For ?_ (pU hs c.env);refine hit E _ qd h F qa α qe qb qf hE _ λv Q val k y z h R hY hv=>?_
  have AW:=cX.step hY.toSts;refine Y (dP h F) ?_;clear h hE cX cY;intro qh C h;subst C;refine ae (aS h F) ?_;clear h F;intro r h
  · · generalize S:Q.locs (lR n Q.loc)=g at*
      have R₀:SR c g k y z:=S▸R.locs D λj v e=>(GJ e).2
      have abH:Sts Q y z g y z:=S▸⟨.refl,aeD _,λf f=>rfl,aeD _,rfl,λf f f f f h f=>h,λf f=>⟨rfl,λf f f h=>h⟩⟩
      refine ir (zS u (σ:=g) hv) ?_;clear hv;intro b o l nn T tQ hd ie C;subst C;have m:=T.at (M:=c.ax) .refl R₀;have bN:=aeS m;have eT:b≠k.heap.objs.size:=aeN bN;have ht:k.heap.IsTuple b l.toArray:=(fC o m tQ nn hd);refine agj ht ?_;have Wk:=Walks.tuple (prog:=W.prog) (w:=W.w) hA.handled k.heap.objs.size b eT l.toArray;have KT:=agz (target:=.Name x xp) Wk λi v qa qg qb st q=>letGo_tupleiter st.1 q
      rw [show l.toArray.size=l.length from rfl] at KT;have WB:SR (c.with ([(k.heap.objs.size,_)]++c.ax)) g {k with heap:=k.heap.push {cls:=.type "tuple_iterator",data:=.fields #[.ref b,.int 0 0]}} y z:=R₀.own u (t:=k.toks) (λb o q=>aeq _ q) (λp r=>by
        rw [aev.mp r];exact ⟨aeJ _ rfl,aeD _⟩) (afe _ _)
      refine codeAny_forLoop_any (Hz c g y z k.heap.objs.size (λi h=>h.IsTupleIter k.heap.objs.size b i/\h.IsTuple b l.toArray) l (pureE n ce g)) ?_ (l.length+1)
        (.mk 0 _ y z qh WB .refl ⟨(dJ _ (aeJ _ rfl) rfl rfl),ht.at λo e=>aeq _ e⟩ (afj _) (by rw [ai0];exact ie) r)
      intro qk V hI;obtain ⟨i,oI,bG,N',l',X,G,mW,hi,Z,lO⟩:=hI;have ku:∀ M:Led,∀ p∈c.ax,p∈M++c.ax:=λM p r=>aeu _ r
      by_cases B:i<l.length
      · refine KT.item i _ _ _ B mW λv h₁ tk₁ uI mF=>?_
        refine KT.go i v _ _ _ uI λly hP ml th=>?_
        have hk:∀ b o,b∉[k.heap.objs.size]->V.heap.get? b=some o->ly.get? b=some o:=λb o m q=>th b o m (mF b o m q)
        have gW:l[i]?=some v:=afx▸hP;rw [ahX B,show l[i]=v from aej ((aeW B).symm.trans gW)] at Z;refine eJ (Qr Z lO) ?_;clear Z lO;intro a uL gZ C wA abI;obtain ⟨H,hpv⟩:=C;refine cK (id ml.1) λs HA CZ NS=>?_
        have cw:=X.ji u (own':=[(k.heap.objs.size,s)]) (t:=tk₁) rfl hk (λp r=>by rw [aev.mp r];exact HA)
        have qM:ak (c.with ([(k.heap.objs.size,s)]++c.ax)):=u.with (ku _);have WC:∀ p∈c.ax,p∈[(k.heap.objs.size,s)]++c.ax:=ku _;refine FL qM D hx a g (λE=>haveI:=ahl (E=g.locs ((n,a)::g.loc));if E=g.locs ((n,a)::g.loc) then .ok H else .no) (.ok H) (if_pos rfl) nofun _ _ _ _ v cw (λqi e bu V bG N' q=>by contradiction) (gZ.mono G.ge) _ λk9 dW I fY L bW dN=>?_
        have L:k9=g.locs ((n,a)::g.loc):=by
          refine ajs λq=>?_
          dsimp only at L;rw [if_neg q] at L;contradiction
        subst L;refine agx (aiY ?_ (by unfold interactive;rw [show c.env.scope.kind=.function from u.kind];rfl) (jV wo _ _ _))
        refine yB _ WC _ _ (.ok H) hpv nofun _ _ _ _ bW.calm (λqi e bu V bG N' q=>by contradiction) _ λxw mG val ke wG N tx oS xF xx=>?_
        refine ae (aS (show aN .no (aeZ g.n mG.lo) (fV g.n xw mG)=.ok H from tx) nofun) ?_;clear tx;intro P GF
        · have P:=aer P
          refine ae (bW.restore oS xF P) ?_;clear bW oS xF P;intro xy oU;have hj:∀ j v,lk j g.loc=some v->lk j ((n,a)::g.loc)=some v:=λj v q=>by
            rw [eD,if_neg]
            · exact q
            · rintro rfl
              rw [←S] at q;exact (GJ q).1 rfl
          have ri:SR (c.with ([(k.heap.objs.size,s)]++c.ax)) g ke I N:=SR.locs (c:=c.with ([(k.heap.objs.size,s)]++c.ax)) (σ:=g.locs ((n,a)::g.loc)) D xy hj;have gz:Sts (g.locs ((n,a)::g.loc)) I N g I N:=⟨.refl,aeD _,λf f=>rfl,aeD _,rfl,λf f f f f h f=>h,λf f=>⟨rfl,λf f f h=>h⟩⟩
          have qc:=G.trans (dN.trans (oU.toSts.trans gz));refine ahq (ay _ (zN B) (.mk (i+1) s I N uL ri qc (KT.frame _ _ _ ml λb m o q=>?_) B wA abI))
          rcases aeA.mp m with rfl|m
          · rw [HA] at q
            cases q
            exact (ri.news (k.heap.objs.size,s) (aeu _ (.head _))).1
          · rw [aev.mp m] at q ⊢
            have q1:=T.at G cw;have q2:ly.get? _=some _:=q1;rw [q] at q2
            cases q2
            exact T.at qc ri
      · have nB:i=l.length:=ajK hi (aft.mp B)
        subst nB;refine KT.done _ _ _ mW λh₁ tk₁ mF=>ahq ?_
        have R:=SR.AY (M':=c.ax) (wr:=[k.heap.objs.size]) (tk₁:=tk₁) u D X (ajr _ _) mF λb m=>by
          rw [aev.mp m];refine ⟨⟨oI,.head _⟩,λqj=>?_⟩
          have nd:=pM.mp X.nodup;rw [aeU,ae3] at nd;exact nd.1 qj
        exact AW _ _ _ _ h R (abH.trans G)
section
variable{prog:ae9}{w:afq}{A A₀:ae6}{s:aep}{L:aez}{h₀ base:afm}{m:Str->Option ael}{news:List (aez×Obj)}
theorem PU{R:aip->aep->Prop} (B:Below A₀ base j h₀) (F:Fr h₀ L s.heap m) (N:agM h₀ L s.heap news) (r:h₀.NoLimit) (k:A.frames=some (env::j)) (l:env.frame=some L) (n:env.scope.kind=.function) (t:s.heap.get? f=some fo) (u:fo.data=.func fd) (z:fd.body=.expr body) (C:fd.globals=afa) (D:fd.builtins=agP) (E:s.heap.CodeRec fd.code fd.qualname) (G:A.depth<recursionLimit) (H:agL fd args=pure binds) (I:∀ y∈binds,fd.scope.names.lookup y.1=some .local) (h:∀ g L' h₁,Fr h₀ L g m->Fr g L' h₁ (λy=>binds.reverse.lookup y)->agM g L' h₁ news->Below A base (env::j) g-> aeO (aeR prog w) (A.deeper (envX fd.qualname fd.scope L' f fd.code fd.closure)) (eval body (envX fd.qualname fd.scope L' f fd.code fd.closure)) (λv a=>LeaveK h₀ L m g R v a) (λe a=>aeO (aeR prog w) (A.deeper (envX fd.qualname fd.scope L' f fd.code fd.closure)) (leaving (envX fd.qualname fd.scope L' f fd.code fd.closure) e) (λq i=>R (.error e) i) (λM i=>R (.error M) i) a) {s with heap:=h₁,toks:=s.toks+binds.length}) (P:fd.scope.isCoroutine=false) (Q:fd.scope.isGenerator=false) (S:fd.scope.kind=.function) (T:∀ x∈fd.scope.names,x.2≠.cell):agk (aeR prog w) A (.call (.ref f) args) R s:=by
 refine j5 (groundX (R:=R) B F N k l n) ?_;clear B k l n;intro V X st Z;refine kla_callFunE G t u P Q z E ?_;rw[H];refine aey (wpAny_newFunctionEnv T I (λh₁ pq d=>⟨(r.keeps F.keep).fresh _ d,?_⟩) S)
 have e:newEnv fd.scope s.heap.objs.size fd.globals fd.closure (fd.qualname++".<locals>.") (some f) fd.code none fd.builtins=envX fd.qualname fd.scope s.heap.objs.size f fd.code fd.closure:=by rw[C,D];rfl
 rw[e];have W:∀ b o,s.heap.get? b=some o->h₁.get? b=some o:=λb o e=>d.extBut b o (aeN (aeS e)) (aeq _ e)
 exact kla_codeExpr (afN (h _ s.heap.objs.size h₁ V ⟨pq,λb o e=>W b o (aiM _ e),agh (hideAll_size _ _)⟩ (λp c=>(bH (W _ _ (N p c).1) (aeN (aeS (N p c).1)) (hideAll_none _ (aeF c)))) X) (λv a hl=>Z _ _ hl) λq q y=>y)
end
inductive lA where
 |e(slot:Nat)(b:Call->Ev)
 |s(slot:Nat)(b:Call->Sc)
noncomputable abbrev BL:=Nat->Option lA
structure xG (d:mT)(slot:Nat):Prop where
 slot:d.scope.names[slot]?=some (d.param,.local)
 cW:(d.scope.names.map (·.1)).Nodup
 cell:∀ x∈d.scope.names,x.2≠.cell
 co:d.scope.isCoroutine=false
 gen:d.scope.isGenerator=false
 kind:d.scope.kind=.function
inductive gN (W:Wd)(d:mT):lA->Prop
 |e{slot b body}:xG d slot->d.body=.expr body->(∀ call d',dw W d' call->∀ (c:Cx W)A,ak c->aP c d' A->c.comp=none->c.scope=d.scope->aE c A body (b call))->gN W d (.e slot b)
 |s{slot b body}:xG d slot->d.body=.stmts body->(∀ call d',dw W d' call->∀ (c:Cx W)A,ak c->aP c d' A->c.comp=none->c.scope=d.scope->cA c A body (b call))->gN W d (.s slot b)
noncomputable def og(W:Wd)(C:BL):Prop:=∀ id E,C id=some E->∃ d,W.kt.bY id=some d/\gN W d E
noncomputable def LS.atC (σ:LS) (b:Nat) (aK:List (Nat×Nat)) (a:O):LS:=LS.rec (motive:=λc=>LS) (λc c t n lo m=>⟨[(b,a)],aK,t,n,lo,m⟩) σ
noncomputable def runC (E:lA) (call:Call) (e:List (Nat×Nat)) (args:List O):Ev:=λc k=>iS .no args λa=>lA.casesOn (motive:=λW=>Rs) E (λA b=>b call (c.atC A e a) (λv d=>k v (back c d))) (λA b=>b call (c.atC A e a) (λd=>k .none (back c d)) (λv d=>k v (back c d)))
theorem Tb {d':Nat} {call:Call} (qE:dw W d' call) (j:ak c) (hf:A.frames=some (c.bF::c.outer)) (hd:A.depth+1+16*d'<=890) (hu:A.units+3+80*d'<=9000) (hh:A.handled=none)
  (qf:gN W D E) (R:SR c σ s α N) (hm:(a,o)∈N) (hO:qt α N o D aK) (hv:ah W.kt α N vals args) (hp:ae1 args=true) {k:Kv} {y:Rs}
  (h:runC E call aK args σ k=y) (G:y≠.no) {Er:ael->aep->Prop} (hE:jo c y σ α N Er)
  {H:aip->aep->Prop} (kQ:∀ v av P t Q p,k av P=y->SR c P t Q p->bh σ α N P Q p->VR W.kt Q p v av->H (.ok (.ret v)) t) (kE:∀ e t,Er e t->H (.error e) t):
  agk (aeR W.prog W.w) A (.call (.ref a) ⟨vals,[]⟩) H s:=by
 refine Y (jc h G) ?_;clear h;intro av I h;subst I
 refine Y (kT hv hp) ?_;clear hv hp;intro v I gZ;subst I
 refine vn hO ?_;clear hO;intro fd e1 e2 e3 e4 e5 e6 I NT;obtain ⟨cc,oc,vs,qc,e7,e8,e9,e10,e11⟩:=I
 refine Y R.fr λm qd eA=>?_
 have ny:A.depth<recursionLimit:=Ab hd
 have lS:s.heap.CodeRec fd.code fd.qualname:=(pR cc oc vs qc e7 (R.get e8) e10 e11)
 obtain ⟨name,qual,params,ad5,scope,globals,cl,dV,kV,doc,pm,an,dD,ct,blt⟩:=fd
 dsimp only at e2 e3 e4 e5 e6 NT lS
 subst e2 e3 e4 e5
 let S:aez->Env:=λd=>envX qual D.scope d a dD cl
 let q:afm->aez->Cx W:=λg d=>⟨A,c.base,c.bF::c.outer,g,d,S d,S d,none,c.ax⟩
 have ctx:∀ i,xG D i->∀ g d u tk,Fr c.h₀ c.L g m->Fr g d u (λy=>[(D.param,v)].reverse.lookup y)->agM g d u (N++c.ax)->Below A c.base (c.bF::c.outer) g->
   ak (q g d)/\aP (q g d) d' (A.deeper (S d))/\SR (q g d) (σ.atC i aK av) {s with heap:=u,toks:=tk} α N:=by
  intro i B g d u tk r L p T
  have st:c.h₀.StaysIn g:=r.keep
  have V:ak (q g d):=⟨j.g,j.aZ.keeps st,j.lim.keeps st,T,B.kind,B.kind,rfl,rfl,rfl,rfl,by refine gH j.top λqg l mg mb qh=>?_;exact (nV qg l mg mb (qh.keeps st)),B.cW,j.k7,j.ls,j.mU,λb=>rfl,(λb b e=>nomatch e),j.nq⟩
  refine (bH V ⟨by show A.frames.map _=_;rw[hf];rfl,hd,hu,hh⟩ ⟨(ay _ L (λql w hj=>?_)),NT,p,R.nodup,R.inj,R.obj,R.all,R.hi,R.wf,R.bD,R.len,R.low,R.bt,R.gens,R.os,V.aZ.keeps L.keep⟩)
  refine ae (Ax hj) ?_;clear hj;intro I pv;subst I;subst pv
  exact (dy D.param .local v B.slot (by show ahU _ _=_;rw[agp,List.reverse_nil,List.nil_append,afz,beq_self_eq_true]) gZ)
 have X:∀ i,Sts σ α N (σ.atC i aK av) α N:=λi=>⟨.refl,aeD _,λb b=>rfl,aeD _,rfl,λb b b b b h b=>h,λb b=>⟨rfl,λb b b h=>h⟩⟩
 have leave:∀ g d {x:LS} {z:aep} {C F} {v},SR (q g d) x z C F->Sts σ α N x C F->(SR c (back σ x) z C F->bh σ α N (back σ x) C F->H (.ok (.ret v)) z)->LeaveK c.h₀ c.L m g H v z:=by
  intro g d x z C F v f n k
  refine Y f.fr λm₂ rd ot=>?_
  exact leaveK_ rd f.news λjs fY=>k ⟨(ay m js (eA.mono n.ge)),R.aK.mono n.ge,fY,f.nodup,f.inj,f.obj,f.all,f.hi,f.wf,f.bD,f.len,f.low,(λqi h=>f.bt qi (n.mark▸h)),f.gens,f.os,f.aZ⟩ ⟨⟨n.ge,n.lo,n.same,n.n,rfl,n.obs,n.bf⟩,rfl⟩
 have exc:∀ i g d,Fr c.h₀ c.L g m->aP (q g d) d' (A.deeper (S d))->bS (q g d) y (σ.atC i aK av) α N (λe t=>aeO (aeR W.prog W.w) (A.deeper (S d)) (leaving (S d) e) (λb rJ=>H (.error e) rJ) (λe' rJ=>H (.error e') rJ) t):=by
  intro i g d r M qj e P t Q p qa kp qe
  have uG:Kp σ α N (back σ P) Q p:=⟨((X i).kp.trans kp).ge,rfl,((X i).kp.trans kp).bf⟩
  obtain ⟨hg,nv,_⟩:=id qe
  refine Eo (c':=q g d) M.frames rfl qe λBw B qm m₁ h' ea b1 b2 b3 b4 b5 b6 b7 b8 b9=>kE _ _ (hE qj e (back σ P) _ Q p qa uG rfl ⟨hg,nv,Bw,B,g,m,ea,b1,r,eA.mono uG.ge,λqb o q1 q2=>b3 qb o (b2.keep qb o q1) λZ=>?_,λqa hq=>?_,(agI b2.keep).trans b5,b6,b7,b8,.inr ?_⟩)
  ·rcases (EX (l:=c.bF::c.outer) (show (q g d).bF.frame=some d from rfl)).mp Z with Z|Z
   ·rw[Z,kts_self b2]at q1;exact aT q1
   ·exact q2 Z
  ·refine bU (b4 qa hq) ?_;clear b4 hq;intro z1 z2 z3
   refine (bH z1 (kts_none r.keep z2) (λqk=>?_))
   refine kW r.ns λb b b ho b=>?_
   have uH:g.get? qa.1=none:=z2
   rw[qk,ho]at uH
   exact nk uH
  ·refine aL b9 ?_;clear b9;intro a0 qc
   exact (gJ a0 .none qc.at (.inl rfl))
 induction qf using gN.casesOn with
 |@e i qb body B hb ox=>
  refine PU j.below qd R.news j.lim hf j.frame j.kZ (R.get hm) e1 hb rfl rfl lS ny (e6 v) (λy G=>by rw[aev.mp G];exact eX B.cW B.slot) (λg d u r L p T=>?_) B.co B.gen B.kind B.cell
  refine bU (ctx i B g d u (s.toks+[(D.param,v)].length) r L p T) λV M R'=>?_
  refine ox call d' qE (q g d) _ V M rfl rfl _ _ y h G _ α N _ R' (exc i g d r M) _ λav x v z C F hk f n pk=>?_
  exact leave g d f ((X i).trans n.toSts) λbW dN=>kQ _ _ _ _ _ _ hk bW dN pk
 |@s i qb body B hb ox=>
  rw[hb]at e1 e6
  refine callX_plain j.below qd R.news j.lim hf j.frame j.kZ (R.get hm) e1 lS ny (λb b b b h=>agT (e6 v) h) (λy G=>by rw[aev.mp G];exact eX B.cW B.slot) (λg d u r L p T b b=>?_) B.cell B.co B.gen B.kind
  refine bU (ctx i B g d u (s.toks+[(D.param,v)].length) r L p T) ?_;clear ctx B L p T;intro V M R'
  refine ox call d' qE (q g d) _ V M rfl rfl _ _ _ y h G _ α N _ R' (exc i g d r M) _ (λx z C F hk f n=>?_) λav x v z C F hk f n pk=>?_
  ·exact leave g d f ((X i).trans n) λbW dN=>kQ _ _ _ _ _ _ hk bW dN .none
  ·exact leave g d f ((X i).trans n) λbW dN=>kQ _ _ _ _ _ _ hk bW dN pk
noncomputable def eP (T:Tab) (I:rC) (C:BL) (call:Call):Call:=λf d A k=>O.casesOn (motive_1:=λc=>Rs) f .no (λc=>.no) (λc=>.no) (λc=>.no) (λc=>.no) (λc=>.no) (λc c=>.no) (λc=>.no) (λa=>AR T I call a d A k) (λc c=>.no)
 (λf self=>aD .no (T f) λE=>jr E call (self::d) A k) (λid W=>aD .no (C id) λE=>runC E call W d A k) .no (λc=>.no)
noncomputable def jl (T:Tab) (I:rC) (C:BL) (n:Nat):Call:=af6 (λc c c c=>.no) (λc d=>eP T I C d) n
theorem pY (HT:mz W T I) (z:og W C){call:Call}(p:dw W n call):dw W (n+1) (eP T I C call):=by
 intro c A l b f B D k y h j qb α qc E R q Q vals m i r qd s;have F:=mv b.depth 1 (by decide)
 have G:=mv b.units 3 (by decide)
 induction f using O.casesOn with
 |glob a=>
  obtain rfl:Q=.ref a:=m.inv;exact Ss HT p l b h j R q i r s
 |cu f self=>
  refine Y (aR (show aD .no (T f) (λE=>jr E call (self::B) D k)=y from h) j) λS L t=>?_
  refine cK (HT.fn _ _ L) ?_;clear HT L;intro fd M V X;refine eZ (l.g.fn _ _ M) ?_;clear M;intro qual dD H;refine eJ m.inv ?_;intro a qe o u Z N;subst o;refine agR (method_call (R.get u) ?_);exact vQ p l b.frames F G b.handled H V X R (.cons N i) (vM N r) t j q (λqa av bu v bG N' e w g i=>s _ _ _ _ _ _ e w g i) λe v x=>x
 |bY id aK=>
  refine Y (aR (show aD .no (C id) (λE=>runC E call aK B D k)=y from h) j) λS P t=>?_
  refine Y (z _ _ P) ?_;clear z P;intro qf hD H;refine sa m.inv ?_;clear m;intro a qg d o u Z hd hO;subst o;have o:=aej (hD.symm.trans hd);subst d;exact agR (Tb p l b.frames F G b.handled H R u hO i r t j q (λqa av bu v bG N' e w g i=>s _ _ _ _ _ _ e w g i) λe v x=>x)
 |_=>exact bO h j
theorem zT (HT:mz W T I)(a:og W C)(n:Nat):dw W n (jl T I C n):=by
 induction n with
 |zero=>exact λc A e g f i j k y h d=>bO h d
 |succ n b=>exact pY HT a b
theorem U1(e:o.data=.func fd)(a:h.get? q=some o):FnAt q h:=by
 obtain⟨c,d,A,W⟩:=o;dsimp only at e;subst e;exact(nV _ _ _ _ a)
noncomputable def oh (call:Call) (b:List Nat) (f:Ev) (args:ec):Ev:=λc k=>f c λA c=>O.casesOn (motive_1:=λd=>Rs) A .no (λd=>.no) (λd=>.no) (λd=>.no) (λd=>.no) (λd=>.no) (λd d=>.no) (λd=>.no) (λa=>aN .no (cM a b) (args c λl c=>call (.glob a) l c k)) (λd d=>.no)
 (λa self=>aN .no (cM a b) (args c λl c=>call (.cu a self) l c k)) (λid W=>args c λl c=>call (.bY id W) l c k) .no (λd=>.no)
theorem U2(H:tO W f fd a b):fnIn W.K f=true:=by
 obtain⟨d,params,A,e,g,h,i,j,k,l,m,c,_⟩:=H.at_;unfold fnIn;rw[c]
theorem Rk (u:ak c){call:Call}(v:jb c A call){pos:Pos}(w:args.any aeH=false) (I:(z.all λa=>(W.G.fn a).isSome)=true) (Z:aE c A (.Name x p) cf) (B:gL c A args C):
  aE c A (.Call (.Name x p) args [] pos) (oh call z cf C):=by
 intro m k y h g qa α qb qc qd L qg D;refine Call_ (Z m _ y h g qa α qb qc qd L _ λfv M val dn cL bZ h E s n=>?_)
 have j:=L.step s.kp;induction fv using O.casesOn with
 |glob a=>
  refine ae (aS (show aN .no (cM a z) (C M λl m=>call (.glob a) l m k)=y from h) g) ?_;clear h;intro F h
  have t:=aeK.mp I _ (nQ F);obtain rfl:val=.ref a:=n.inv;refine eM (P:=λf=>W.K.In f) w (λf X=>keeps_K (u.g.keep _ (.inl t)) f X) ?_
  exact B _ _ y h g _ _ _ _ E j pos _ λl N Q R S T h i b o r=>⟨i.aZ,v _ _ _ _ _ h g _ _ _ _ i (j.step b.kp).l _ _ (.glob _) o r _ (D.step (s.trans b))⟩
 |cu a self=>
  refine ae (aS (show aN .no (cM a z) (C M λl m=>call (.cu a self) l m k)=y from h) g) ?_;clear h;intro F h
  have t:=aeK.mp I _ (nQ F);refine aL (ah9.mp t) ?_;clear t;intro fd V;refine eZ (u.g.fn _ _ V) ?_;clear u V;intro qual dD qe;refine eJ n.inv λq qf e G H hs=>?_
  subst e;refine eM (P:=λf=>MethP W.K q _ qf f) w (λf X=>keeps_M (U2 qe) f X) ?_
  exact B _ _ y h g _ _ _ _ E j pos _ λl N Q R S T h i b o r=>⟨⟨i.get (b.ge.keep _ G H),i.aZ⟩,v _ _ _ _ _ h g _ _ _ _ i (j.step b.kp).l _ _ (n.mono b.ge) o r _ (D.step (s.trans b))⟩
 |bY id aK=>
  refine PG n.inv λq qh d e G H hD fd hO u_=>?_
  subst e;refine eM (P:=λf=>FnAt _ f) w (λf X=>keeps_F f X) ?_
  exact B _ _ y h g _ _ _ _ E j pos _ λl N Q R S T h i b o r=>⟨U1 hO (i.get (b.ge.keep _ G H)),v _ _ _ _ _ h g _ _ _ _ i (j.step b.kp).l _ _ (n.mono b.ge) o r _ (D.step (s.trans b))⟩
 |_=>exact bO h g
noncomputable def tD (K:afV) (C:aez) (name:Str) (f:aez):Bool:=
 ajv K C name&&hasDictIn K C&&(ags K (.ref C) name ==some (some (.ref f)))&&isFn K (.ref f)&&(specialIn K (.ref f) "__get__" ==some (some (.builtin "function.__get__")))&&(takesIn K (.ref f) ==some false)&&!(copiedNames.contains name)
noncomputable def vZ (a:List (Nat×aez)) (name:Str) (o:Ev):Ev:=λc k=>o c λv c=>d0 .no c.st v λi o=>mj .no o λC d=>Bm .no (bw name d) (aD .no (lk C a) λf=>k (.cu f (.ref i)) c)
theorem Rl (g:ak c) (v:eI o=true) (w:(z.all λp=>tD W.K p.1 name p.2)=true) (B:aE c A o C):aE c A (.Attribute o name pos) (vZ z name C):=by
 intro D qc y h b F G N E R H qd I;refine FJ v (B D _ y h b F G N E R H _ λqe dk val i cL bZ h e L j=>?_)
 have key:=j;revert key;refine vx e j h b λqf qg es a qh da M n P hg hij Q hj S T k=>?_
 intro key;subst P;refine ae (Fv k b) ?_;clear k;intro l m;refine Y (aR m b) ?_;clear m b;intro f V Z;have d:=aeK.mp w _ (iA V);refine ae (aei.mp d) ?_;clear d;intro d p7;refine ae (aei.mp d) ?_;clear d;intro d p6;refine ae (aei.mp d) ?_;clear d;intro d p5;refine ae (aei.mp d) ?_;clear d;intro d p4;refine ae (aei.mp d) ?_;clear d;intro d p3;refine ae (aei.mp d) ?_;clear d;intro r p2;have q:=T.getL (x:=name);rw[sI]at l;rw[l]at q;refine Y e.fr λqi qa eA=>?_
 have qb:=aiX e.news (aeo _ Q) (aeo _ S);have X:=g.aZ.keeps qa.keep;refine ae (e.iH g (methodObj (.ref f) (.ref a)) (t:=i.toks+1)) ?_;clear g;intro cw u;refine get_bind X qb (plainGet_of r).1 (findObj_fn p2 (beq_iff_eq.mp p3) (beq_iff_eq.mp p5) (beq_iff_eq.mp p6) ((aeT _).mp p7) (by show lookIn name (dictOf M n)=_;rw[lookIn_dict,q])) (plainGet_of r).2 (agR (fn_get (s:={i with toks:=i.toks+1}) X (beq_iff_eq.mp p4) (handed_on rfl ?_)))
 exact I _ _ _ _ _ _ Z cw (L.trans u) (.cu (.head _) e.away (key.mono u.ge))
theorem SR.WD (R:SR c σ s α N) (g:α[i]?=some a) (l:(a,b)∈N) (m:OR W α N i b ao') (n:i∉σ.mark):SR c (σ.put i ao') s α N/\bh σ α N (σ.put i ao') α N:=by
 have hi:=R.lt g;refine⟨⟨R.fr,R.aK,R.news,R.nodup,R.inj,λj k A e=>?_,R.all,R.hi,R.wf.set,R.bD,R.len,aeE iz R.low,R.bt,R.gens,R.os,R.aZ⟩,⟨⟨.refl,iz,λj A=>?_,aeD _,rfl,λd d d d d h d=>h,λj A=>⟨?_,λd d d h=>h⟩⟩,rfl⟩⟩
 ·have f:j<σ.n:=A;rw[kO R hi f]at e;by_cases q:j=i
  ·rw[if_pos q]at e;have o:=aej e;clear e;subst k;subst q;exact (bB a b g l m)
  ·rw[if_neg q]at e;exact R.obj j k f e
 ·have f:j<i:=aet A ja;rw[kO R hi (agt f hi),if_neg (aeN f)]
 ·rw[kO R hi (R.bt j A),if_neg (λe:j=i=>n (e▸A))]
theorem Pk{pos:Pos}{g:Pos}{f c':ael}(l:List ael)(h:ai7 l)(e:ahE pos (l++[aff g.line,aff g.col,c'])=some f):ahE pos l=some f\/f=c':=by
 fun_induction ai7 l with
 |case1=>
  simp only[List.nil_append,ahE,aff]at e;split at e
  ·have d:=aej e;clear e;subst c';exact .inr rfl
  ·exact aT e
 |case2 a t b u x A c=>
  simp only[ahd,ahE]at e ⊢;split at e
  ·rename_i q;rw[if_pos q];exact .inl e
  ·rename_i q;rw[if_neg q];exact c h e
 |case3 l W i=>exact h.elim
noncomputable def oY (v:ael):Nat:=afo (motive:=λc=>Nat) v 0 0 0 (λc=>1) (λc c=>2) (λc c=>0) (λc c=>3) (λc c=>0) (λc=>0) (λc=>0) (λc=>0)
theorem Rm (h:aew (oY v) 1=true):∃ b,v=.bool b:=by induction v using afo with
 |bool b=>exact⟨b,rfl⟩
 |_=>exact aX h
theorem Fb (h:aew (oY v) 2=true):∃ i t,v=.int i t:=by induction v using afo with
 |int i t=>exact⟨i,t,rfl⟩
 |_=>exact aX h
theorem Td (h:aew (oY v) 3=true):∃ x t,v=.str x t:=by induction v using afo with
 |str x t=>exact⟨x,t,rfl⟩
 |_=>exact aX h
noncomputable def Fc(d:Data)(f:Array ael->Bool):Bool:=match d with
 |.fields c=>f c
 |_=>false
theorem PV{d:Data}{f:Array ael->Bool}(h:Fc d f=true):∃ vs,d=.fields vs/\f vs=true:=by induction d using aia with
 |fields vs=>exact⟨vs,rfl,h⟩
 |_=>exact aX h
noncomputable def ju (K:afV) (a P:aez):Bool:=aD false (K.lookup a) λo=>Fc o.data λc=>o.cls ==.type "code" &&(c[11]? ==some (.ref P)&&(aew (oY (c.getD 18 .none)) 3&&(aew (oY (c.getD 7 .none)) 2&&(aew (oY (c.getD 9 .none)) 1&&(aew (oY (c.getD 10 .none)) 2&&!(a ==P))))))
theorem F5{K:afV}{a P:aez}(X:K.In h) (e:ju K a P=true):CodeHd h a P:=by
 refine Y (aR e nofun) ?_;clear e;intro o q e;refine Y (PV e) ?_;clear e;intro i j e;refine ae (aei.mp e) ?_;clear e;intro k e;refine ae (aei.mp e) ?_;clear e;intro c e;refine ae (aei.mp e) ?_;clear e;intro d e;refine ae (aei.mp e) ?_;clear e;intro A e;refine ae (aei.mp e) ?_;clear e;intro W e;refine ae (aei.mp e) ?_;clear e;intro g l;refine eZ (Td d) ?_;clear d;intro f m n;refine eZ (Fb A) ?_;clear A;intro p r s;refine aL (Rm W) ?_;clear W;intro b t;refine eZ (Fb g) ?_;clear g;intro u v w;have c:=beq_iff_eq.mp c;exact (O0 o i f m p r b u v (X _ _ q) (beq_iff_eq.mp k) j c (by rw[Array.getD_eq_getD_getElem?,c];rfl) n s t w (beq_eq_false_iff_ne.mp ((aeT _).mp l)))
noncomputable def GK (v:Option (Option ael))(f:aez->Bool):Bool:=match v with
 |some (some (.ref a))=>f a
 |_=>false
theorem Rn{f:aez->Bool}(h:GK v f=true):∃ a,v=some (some (.ref a))/\f a=true:=by
 induction v using aeB with
 |none=>exact aX h
 |some v=>induction v using aeB with
  |none=>exact aX h
  |some v=>induction v using afo with
   |ref a=>exact⟨a,rfl,h⟩
   |_=>exact aX h
noncomputable def Fd(d:Data):Bool:=match d with
 |.plain=>true
 |_=>false
theorem PW{d:Data}(h:Fd d=true):d=.plain:=by induction d using aia with
 |plain=>rfl
 |_=>exact aX h
noncomputable def kg (K:afV):Bool:=GK (nsIn K afa "__builtins__") λc=>!(c ==agP)&&(!(c ==afa)&&aD false (K.lookup c) λo=>Fd o.data&&(o.cls ==.type "module" &&o.dict ==some agP))
theorem Va{K:afV}{a:Str->Option ael}{b}(X:K.In h) (G:h.Ns afa a) (f:h.get? P=some (afn b)) (e:kg K=true):h.BuiltinsAt a P:=by
 refine Y (Rn e) ?_;clear e;intro A q e;refine ae (aei.mp e) ?_;clear e;intro W e;refine ae (aei.mp e) ?_;clear e;intro g e;refine Y (aR e nofun) ?_;clear e;intro o i e;refine ae (aei.mp e) ?_;clear e;intro c e;refine ae (aei.mp e) ?_;clear e;intro j k;have c:=PW c;have d:=X _ _ i;refine (PI A o (mg_of X G q) (beq_eq_false_iff_ne.mp ((aeT _).mp W)) (beq_eq_false_iff_ne.mp ((aeT _).mp g)) (λz=>?_) d (beq_iff_eq.mp j) (beq_iff_eq.mp k) c)
 rw[z,f]at d;rw[←aej d]at c;contradiction
theorem SR.made {σ:LS} {s:aep} {α N} (R:SR c σ s α N) (C:ak c) {g:Nat} {pos:Pos} {c':aez} {h':afm} {fo:Obj} {tk:Nat} (X:σ.st.get g=some (.tab P l)) (m:α[g]?=some P) (D:(P,afn r)∈N) (jA:OR W α N g (afn r) (.tab P l)) (M:g∉σ.mark)
  (Q:ai5 P s.heap h') (v:s.heap.objs.size<=c') (j:c'<h'.objs.size) (Z:h'.CodeRec (.ref c') l) (pz:h'.get? P=some (afn (r++#[aff pos.line,aff pos.col,.ref c']))) (hf:fo.isFreed=false):
  ∃ E,SR c σ {s with heap:=h'.push fo,toks:=tk} α E/\bh σ α N σ α E/\(h'.objs.size,fo)∈E/\h'.objs.size∉α/\i8 α E (.ref c') l:=by
 refine Y R.fr λqa F w=>?_
 have z:=R.news _ (aeo _ D)
 have hLs:c.L<s.heap.objs.size:=F.ns.lt
 have hi:=R.lt m
 have xH:∀ x,σ.st.get (g+1)=some x->g+1<σ.n->(∃ qb es,x=.obj qb es)->False:=by
  intro x Q j he
  refine eZ he ?_;clear he;intro qb es bj;subst bj
  refine aH (R.obj _ _ j Q) λa' b' q1 q2 q3=>?_
  refine ir q3.inv ?_;clear q3;intro qe da CA qa n e4 h5 h6 n
  obtain rfl:=af0 e4
  obtain rfl:=aej (m.symm.trans h5)
  exact nomatch congrArg Obj.data (R.uniq D h6)
 refine pQ Z ?_;clear Z;intro c₂ y vs t e2 CZ hd hv
 cases e2
 refine cK (R.mod C (ao':=.any) (o':=afn (r++#[aff pos.line,aff pos.col,.ref c'])) m D M (λn n=>⟨_,rfl⟩) xH) ?_;clear xH;intro k u hY K
 have S:∀ b A,b≠P->s.heap.get? b=some A->(h'.push fo).get? b=some A:=λb A B e=>aeq _ (Q b A B e)
 have BM:Fr c.h₀ c.L (h'.push fo) qa:=⟨F.ns.at' λA e=>S _ A z.2.1.symm e,λb A e=>S b A (λq=>by rw[q]at e;rw[z.2.2]at e;exact aT e) (F.keep b A e),F.above⟩
 have fresh:∀ b,c.L<b->c.h₀.get? b=none:=λb B=>aiN (aeE F.above (agV B))
 have Vb:agM c.h₀ c.L (h'.push fo) (k++c.ax):=by
  intro p d
  rcases Upd1 u p d with rfl|⟨d,hn⟩
  ·exact ⟨aeq _ pz,z.2⟩
  ·have q:=R.news p d
   exact ⟨S _ _ hn q.1,q.2⟩
 have G:=K (t:=tk) w BM Vb .any
 have T:∀ p∈k++c.ax,p.1<s.heap.objs.size:=λp d=>by
  rcases Upd1 u p d with rfl|⟨d,_⟩
  ·exact aeS z.1
  ·exact aeS (R.news p d).1
 have H:c.L<c':=aet hLs v
 refine Y G.fr λm₁ HB wQ=>?_
 refine ae (G.vE C (a:=c') (o:=y) (t:=tk) wQ HB (λp d=>by
  rcases aeA.mp d with rfl|d
  ·exact (bH (aeq _ CZ) (agu H) (fresh _ H))
  ·exact G.news p d) (λq=>by
  obtain ⟨p,d,e⟩:=aeP.mp q
  exact absurd (e▸T p d) (aft.mpr v)) H) ?_;clear G wQ HB CZ;intro I mY
 refine Y I.fr λm₂ HC ot=>?_
 have L:c.L<h'.objs.size:=agt H j
 refine ae (I.vE C (a:=h'.objs.size) (o:=fo) (t:=tk) ot HC (λp d=>by
  rcases aeA.mp d with rfl|d
  ·exact (bH (aeJ _ hf) (agu L) (fresh _ L))
  ·exact I.news p d) (λq=>by
  obtain ⟨p,d,e⟩:=aeP.mp q
  rcases aeA.mp d with rfl|d
  ·exact aeN j e
  ·exact absurd (e▸T p d) (aft.mpr (aeE v (agV j)))) L) ?_;clear I C ot HC hf L fresh T;intro bW dN
 have NU:∀ b,s.heap.objs.size<=b->b∉α:=λb B q=>by
  refine Y (aeP.mp (R.all b q)) λp d e=>?_
  exact absurd (e▸aeS (R.news p (aeo _ d)).1) (aft.mpr B)
 have nE:i8 α ((h'.objs.size,fo)::(c',y)::k) (.ref c') l:=(zi c' y vs t rfl (.tail _ (.head _)) (NU _ v) hd hv)
 have qc:=hY.trans (mY.trans dN)
 have GN:∀ {p:aez×Obj},p∈k++c.ax->p.1∈N.map (·.1)->p∈k:=λq qd=>(aeQ.mp q).elim id λq=>absurd (aeF (f:=λp:aez×Obj=>p.1) q) (R.Bp qd)
 have HD:(P,afn (r++#[aff pos.line,aff pos.col,.ref c']))∈k:=GN (Upd3 u) (show P∈N.map (·.1) from aeF (f:=λp:aez×Obj=>p.1) D)
 cases jA with
 |tab aea ht tE=>
  have LX:OR W α ((h'.objs.size,fo)::(c',y)::k) g (afn (r++#[aff pos.line,aff pos.col,.ref c'])) (.tab P l):=by
   refine .tab m (by rw[Array.toList_append];exact TriplesOk_snoc _ _ _ _ ht) λpos' cv e=>?_
   rw[Array.toList_append]at e
   rcases Pk _ ht e with e|rfl
   ·exact (tE pos' cv e).mono qc.ge
   ·exact nE
  refine ae (bW.WD m (.tail _ (.tail _ HD)) LX M) ?_;clear HD LX;intro h eR
  have oJ:∀ p∈N,p.1≠P->p∈k:=λp d eT=>GN (Upd2 u p (aeo _ d) eT) (aeF d)
  have Rσ:SR c σ {s with heap:=h'.push fo,toks:=tk} α ((h'.objs.size,fo)::(c',y)::k):=by
   refine ⟨h.fr,h.aK,h.news,h.nodup,h.inj,λi A j e=>?_,h.all,h.hi,R.wf,R.bD,R.len,R.low,R.bt,h.gens,h.os,h.aZ⟩
   refine h.obj i A j ?_
   have e':((σ.put g .any).put g (.tab P l)).st.get i=if i=g then some (.tab P l) else (σ.put g .any).st.get i:=kO bW hi j
   rw[e']
   by_cases q:i=g
   ·rw[if_pos q];rw[q,X]at e;exact e
   ·rw[if_neg q,kO R hi j,if_neg q];exact e
  refine (Un _ Rσ ⟨⟨(qc.trans eR).ge,aeD _,λn n=>rfl,aeD _,rfl,λi a A n V w nt=>?_,λi hi=>⟨rfl,λa A V w=>?_⟩⟩,rfl⟩ (.head _) (NU _ (aeE v (agV j))) nE)
  ·exact .tail _ (.tail _ (oJ _ w λq=>nt _ rfl (by subst P;rw[hH R V m];exact X)))
  ·exact .tail _ (.tail _ (oJ _ w λq=>M (by subst P;rw[←hH R V m];exact hi)))
theorem Pz (b:oQ sc c.scope m) (R:SR c σ s α N) (h:qK σ.aK m=some o) (e:(sc.names.map (·.1)).Nodup): ajq sc c.env=pure (gQ c.env.cells sc.names [])/\gj sc α o (gQ c.env.cells sc.names []):=by
 have q:=zh (c:=c) (M:=c.ax) b R h e;refine⟨DW q.1,λj i d=>?_⟩
 refine ae (E4 h) ?_;clear h;intro y A;refine Y (A j i d) ?_;clear A d;intro n W f;refine be (b.mem _ W) ?_;clear b W;intro x k g p;refine cj (R.aK _ _ f) ?_;clear R f;intro r t a u v w;have l:c.scope.names[n]?=some (r,t):=u;rw [p]at l;cases l;exact (dy x _ a g ((D8 e λz=>rfl).1 a v (aeV g)) w)
noncomputable def mJ (a P:Nat) (b:Str) (id:Nat) (e:List (Nat×Nat)):Ev:=λc k=>aD .no (qK c.aK e) λd=>aD .no (c.st.get a) λo=>Gr .no o λA q=>aN .no (and (afu a c.n) (and (aew P A) (seq b q))) (rz .no (cM a c.mark) (k (.bY id d) c))
theorem make_core (n:ak c) {L id:Nat} (CE:oQ sc c.scope rm) (cW:(sc.names.map (·.1)).Nodup) (tE:∃ a,c.env.code=.ref a/\ju W.K a P=true) (hbm:kg W.K=true)
  (M:W.kt.bY id=some ⟨x,S,sc⟩) (R:SR c σ s α N) {y:Rs} (h:mJ L P u id rm σ k=y) (i:y≠.no) {E:ael->aep->Prop} {Q:ael->aep->Prop} (T:fZ c y σ α N k Q)
  (new:∀ f g j,ajq sc c.env=pure j->s.heap.Ns afa g->(∀ a,c.env.code=.ref a->CodeHd s.heap a P)->s.heap.get? P=some (afn f)->ai7 f.toList->ahE pos f.toList=none->afa≠P->s.heap.BuiltinsAt g P->
   (∀ (c':aez) (fo:Obj) (fd:ahG) (h':afm) (tk:Nat),ai5 P s.heap h'->s.heap.objs.size<=c'->c'<h'.objs.size->h'.CodeRec (.ref c') u->h'.get? P=some (afn (f++#[aff pos.line,aff pos.col,.ref c']))->fo={cls:=.type "function",data:=.func fd}->fd.body=S->fd.scope=sc->fd.globals=afa->fd.builtins=agP->(∀ v,agL fd ⟨[v],[]⟩=pure [(x,v)])->fd.code=.ref c'->fd.qualname=u->fd.closure=j->Q (.ref h'.objs.size) {s with heap:=h'.push fo,toks:=tk})->WP W A V Q E s)
  (hit:∀ f g j p,ajq sc c.env=pure j->s.heap.Ns afa g->(∀ a,c.env.code=.ref a->CodeHd s.heap a P)->s.heap.get? P=some (afn f)->ai7 f.toList->ahE pos f.toList=some p->s.heap.BuiltinsAt g P->
   (∀ (fo:Obj) (fd:ahG) (h':afm) (tk:Nat),(∀ b o,s.heap.get? b=some o->h'.get? b=some o)->s.heap.objs.size<=h'.objs.size->fo={cls:=.type "function",data:=.func fd}->fd.body=S->fd.scope=sc->fd.globals=afa->fd.builtins=agP->(∀ v,agL fd ⟨[v],[]⟩=pure [(x,v)])->fd.code=p->fd.qualname=u->fd.closure=j->Q (.ref h'.objs.size) {s with heap:=h'.push fo,toks:=tk})->WP W A V Q E s):
  WP W A V Q E s:=by
 refine Y (aR h i) λaK BJ h1=>?_
 refine Y (aR h1 i) λo X Z=>?_
 refine be (QK Z i) ?_;clear Z;intro P' qe d h3;subst d
 refine ae (aS h3 i) λw h4=>?_
 refine ae (sG h4 i) λuE h5=>?_
 refine ae (aei.mp w) λhq0 w=>?_
 refine ae (aei.mp w) λhq1 hq2=>?_
 obtain rfl:=aem hq1
 obtain rfl:=gG.mp hq2
 have abJ:L<σ.n:=aer hq0
 refine aH (R.obj _ _ abJ X) λqa b lT hN jA=>?_
 refine j1 jA.inv ?_;intro f d z ht lS;subst d
 have d:=aej (lT.symm.trans z);subst qa
 have h:=h5
 refine ae (Pz (c:=c) CE R BJ cW) λks HE=>?_
 refine Y R.fr λqf qb hm=>?_
 refine gH n.top λqg loose g mb qc=>?_
 have G:=qc.g.keeps qb.keep
 have q:=R.get hN
 have hG:afa≠P:=λqd=>by
  refine cj G λo es ep e hd u_=>?_
  rw [qd,q]at e;have d:=aej e;clear e;subst o;contradiction
 have NV:∀ a,c.env.code=.ref a->CodeHd s.heap a P:=λa e=>by
  refine Y tE λcc' l m=>?_
  rw [l]at e;cases e
  exact F5 R.aZ m
 have hB:=Va R.aZ G q hbm
 induction e:ahE pos f.toList using aeB with
 |none=>
  refine new f g _ ks G NV q ht e hG hB λc' fo fd h' tk hx f5 bN abK pz r l m B C D F H I=>?_
  refine Ul (R.made (fo:=fo) (pos:=pos) n X lT hN jA (iy uE) hx f5 bN abK pz (by rw [r];rfl) (tk:=tk)) λN' R' g' eA z nE=>?_
  refine T _ _ _ _ _ _ h R' g' (.bY eA z M (r9 fd (by rw [r]) l m B C D (by rw [F,H];exact nE) (by rw [I];exact HE.mono g'.ge)))
 |some p=>
  refine hit f g _ p ks G NV q ht e hB λfo fd h' tk hk ed r l m B C D F H I=>?_
  have dq:=R.ext n (t:=tk) hk
  subst r
  refine ae (dq.iH n {cls:=.type "function",data:=.func fd} rfl (t:=tk)) λcw mY=>?_
  exact T _ _ _ _ _ _ h cw mY (.bY (.head _) dq.away M (r9 fd rfl l m B C D (by rw [F,H];exact (lS _ _ e).mono mY.ge) (by rw [I];exact HE)))
theorem Vc (a:ak c){s id:Nat}{pos:Pos}(t:oQ sc c.scope u) (w:(sc.names.map (·.1)).Nodup) (n:∃ b,c.env.code=.ref b/\ju W.K b P=true) (o:(c.env.qual++"<lambda>" :Str)=y) (z:kg W.K=true)
  (B:W.kt.bY id=some ⟨x,.expr body,sc⟩) (BN:defaultsOf params c.env=([],[])) (p:∀ name C D E F G v,agL (kla_fn name C params body sc D E F G) ⟨[v],[]⟩=pure [(x,v)]):
  aE c A (.Lambda params body sc pos) (mJ s P y id u):=by
 intro σ qa qb h H qc α qd qe R hE qf I
 have q:=n
 refine Y q ?_;clear q;intro b d u_
 refine kla_eval BN ?_
 refine make_core (pos:=pos) a t w n z B R h H I (λL M N e f g i j Q S k K=>?_) (λL M N cv e f g i j T k K=>?_)
 ·refine kla_makeFunction e a.iE f d (g _ d) i j Q S k λV X l m Z f5 bN r pz=>?_
  rw [o]at r ⊢
  exact K V _ _ l m Z f5 bN r pz rfl rfl rfl rfl rfl (p _ _ _ _ _ _) rfl rfl rfl
 ·refine kla_makeFunctionHit e a.iE f d (g _ d) i j T k λX l m hk ed=>?_
  rw [o]
  exact K _ _ l m hk ed rfl rfl rfl rfl rfl (p _ _ _ _ _ _) rfl rfl rfl
noncomputable def ub (a P:Nat)(b:Str)(id:Nat)(e:List (Nat×Nat))(f:Tg):Sc:=λc kn d=>mJ a P b id e c λv c=>f v c kn
theorem Vd (b:ak c){D id:Nat}{e:Tg}(E:oQ sc c.scope F) (G:(sc.names.map (·.1)).Nodup) (s:∃ f,c.env.code=.ref f/\ju W.K f P=true) (t:qualnameIn c.env name name=H) (I:kg W.K=true)
  (L:W.kt.bY id=some ⟨x,.stmts body,sc⟩) (M:params.defaults=[]) (jD:params.kw_defaults=[]) (N:annTrees params none c.env=[]) (u:∀ name Q R i S T V v,agL (fnX name Q params body sc R .none .none i S none T V) ⟨[v],[]⟩=pure [(x,v)]) (X:q9 c A name e):
  bQ c A (.FunctionDef name params body [] none [] sc none name pos) (ub D P H id F e):=by
 intro j kn kr y h w qe Z qa qb qc hE qd cX cY
 have z:=s
 refine Y z ?_;clear z;intro f a u_
 refine nestDef_K M jD N ?_
 have hQ:fZ c y j Z qa (λv j=>e v j kn) (λv B=>WP W A (storeName c.env name v) (λu_ rJ=>qd .next rJ) qb B):=λqf bu v B bG N' d R' g hv=>
  X _ _ _ _ d w _ _ _ _ _ R' (hE.step g.kp) hv _ λk9 dW jk fY d bW dN=>cX _ _ _ _ d bW (g.toSts.trans dN)
 refine make_core (pos:=pos) b E G s I L qc h w hQ (λps mg abL k l m n o C0 hgP p K=>?_) (λps mg abL cv k l m n o hf p K=>?_)
 ·refine makeFunction_K k b.iE l a (m _ a) n o C0 hgP p λc' ctv i q r hx f5 bN C pz=>?_
  rw [t] at C ⊢
  exact K c' _ _ q r hx f5 bN C pz rfl rfl rfl rfl rfl (u _ _ _ _ _ _ _) rfl rfl rfl
 ·refine makeFunction_hit k b.iE l a (m _ a) n o hf p λctv i q r d ed=>?_
  rw [t]
  exact K _ _ q r d ed rfl rfl rfl rfl rfl (u _ _ _ _ _ _ _) rfl rfl rfl
noncomputable def uc (c:Cx W) (A:ae6) (m:List (Option aeM)) (vals:List aeM) (h:List Str) (n:ec):Prop:=∀ d k y,n d k=y->y≠.no->∀ s a N E (o:Pos),SR c d s a N->bS c y d a N E->∀ Q:List (ael×ael)->aep->Prop,
 (∀ l b i j e f g,k l b=y->SR c b j e f->bh d a N b e f->aU W.kt e f g (h.zip l)->g.map (·.1)=h->Carries (afb W.prog W.w) i g->Q i j)->WP W A (evalPairs (pairTrees m vals c.env o)) Q E s
theorem Yx:uc c A [] [] [] aI:=λW k y h a s b N E e R f Q d=>evalPairs_nil (d _ _ _ _ _ _ [] h R .refl .nil rfl trivial)
theorem WE (n:aE c A o (λσ k=>k (.str x) σ)) (p:aE c A r b) (u:uc c A v vs w e):uc c A (some o::v) (r::vs) (x::w) (bg b e):=by
 intro σ k y h d s z N E B R f qa C;refine evalPairs_cons (n σ (λa σ=>haveI:=ahl (a=.str x);if a=.str x then bg b e σ k else .no) y ((if_pos rfl).trans h) d s z N E R f _ λa D kv F G H h I g i=>?_)
 have L:a=.str x:=by
  refine ajs λq=>?_
  dsimp only at h;rw[if_neg q]at h;exact bO h d
 subst L;dsimp only at h;rw[if_pos rfl]at h;refine Y i.inv ?_;clear i;intro t M nC;subst M
 ·have j:=f.step g.kp;refine aek (p D _ y h d F G H E I j _ λqb P Q S T V h X l Z=>?_)
  refine aek (ahO (aey ?_));refine u P _ y h d S T V E B X (j.step l.kp) _ λqc k9 vs dW jk fY kvs h bW m hb hks BO=>?_
  exact C _ _ _ _ _ _ ((x,Q)::kvs) h bW (g.trans (l.trans m)) (.cons (Z.mono m.ge) hb) (by rw[aeU,hks]) (bH (ag7 W.prog W.w x t) rfl BO)
noncomputable def LY(l:List Str):Bool:=decide l.Nodup
noncomputable def hV (a:List Str) (b:ec):Ev:=λc k=>b c λl c=>aN .no c.room (k (.ref c.n) (c.push (.dict (a.zip l))))
theorem Te (e:ak c) (B:c.comp=none) (C:a.all (·.isSome)=true) (D:a.length=vals.length) (F:a≠[]) (G:a.length<=15) (H:LY g=true)
  (I:∀ M,(∀ p∈c.ax,p∈M)->uc (c.with M) A a vals g L):aE c A (.Dict a vals pos) (hV g L):=by
 intro m qc y h i s n N E R P qd Q;refine wpAny_Dict_walk (knd:=afb W.prog W.w) C D F G ?_;have S:SR (c.with ([(s.heap.objs.size,({cls:=.type "dict",data:=.dict #[]}:Obj))]++c.ax)) m {s with heap:=s.heap.push {cls:=.type "dict",data:=.dict #[]},toks:=s.toks} n N:=R.own e (λb o q=>aeq _ q) (λp d=>by
  rw [aev.mp d];exact⟨aeJ _ rfl,aeD _⟩) (afe _ _)
 have r:∀ p∈c.ax,p∈[(s.heap.objs.size,({cls:=.type "dict",data:=.dict #[]}:Obj))]++c.ax:=λp d=>aeu _ d
 refine I _ r m _ y h i _ n N E pos S (P.with B r) _ λl dk T u cL bZ V h v X f Z BO=>?_
 refine ae (aS h i) ?_;clear h i;intro w h;have hD:=(v.news (s.heap.objs.size,({cls:=.type "dict",data:=.dict #[]}:Obj)) (aeu _ (.head _))).1;have WG:u.heap.DictOf (afb W.prog W.w) s.heap.objs.size []:=by
  refine Y (agc.mp (ajL (knd:=afb W.prog W.w) s.heap)) λo j hd=>?_
  rw [aeJ _ rfl]at j;have bj:=aej j;clear j;subst o;exact agc.mpr (ay _ hD hd)
 refine (dJ V BO WG (λh' k uR=>?_))
 ·rw [merged_nil_of_nodup _ (by rw [Z];exact of_decide_eq_true H)]at k
  refine Y (agc.mp k) ?_;clear k;intro o' jE x;have z:=v.ji e (own':=[(s.heap.objs.size,o')]) (h':=h') (t:=u.toks+T.length) rfl (λb o f q=>(uR.2 b λqa=>f (by rw [qa];exact .head _)).trans q) (λp d=>by rw [aev.mp d];exact jE)
  refine ae (SR.adopt (ao:=.dict (g.zip l)) e w z λqb=>.dict x (f.mono qb.ge)) ?_;clear e w x f;intro lB eR
  exact Q _ _ _ _ _ _ h lB (X.trans eR) (.ref (kG z.len))
noncomputable def et:Ev:=λc k=>aN .no c.room (k (.ref c.n) (c.push (.dict [])))
theorem Ro (a:ak c):aE c A (.Dict [] [] pos) et:=by
 intro m k y h b s n N E R p Q i;refine ae (aS h b) ?_;clear h b;intro e h;refine wpAny_Dict_empty ?_;have f:Obj.IsDictOf (afb W.prog W.w) ({cls:=.type "dict",data:=.dict #[]}:Obj) []:=by
  refine Y (agc.mp (ajL (knd:=afb W.prog W.w) s.heap)) λo d j=>?_
  rw [aeJ _ rfl] at d;have q:=aej d;clear d;subst o;exact j
 refine ae (R.pushS a e (ao:=.dict []) ({cls:=.type "dict",data:=.dict #[]}:Obj) rfl (t:=s.toks) λg=>.dict f .nil) ?_;clear a e f;intro l g
 exact i _ _ _ _ _ _ h l g (.ref (kG R.len))
theorem PX{r:List (Str×ael)}:stored ((y,w)::r) x v=if y=x then (y,v)::r.map (λkv=>if kv.1=x then (kv.1,v) else kv) else (y,w)::stored r x v:=by
 unfold stored;by_cases e:y=x
 ·subst e;simp
 ·simp only[afA,e,decide_false,ajU,if_false,aeU];split<;>simp
theorem Ve{r:List (Str×ael)}(h:x∉r.map (·.1)):r.map (λkv=>if kv.1=x then (kv.1,v)else kv)=r:=by
 induction r with
 |nil=>rfl
 |cons p r c=> rw[aeU,aeA,not_or]at h;rw[aeU,c h.2,if_neg λe=>h.1 e.symm]
theorem aU.put (f:VR T α N v a){b:List (Str×O)}:∀ {kvs:List (Str×ael)},aU T α N kvs b->(kvs.map (·.1)).Nodup->aU T α N (stored kvs x v) (jq x a b):=by
 induction b with
 |nil=>intro kvs h _;rw[h.nil_inv];exact .cons f .nil
 |cons p b A=>
  intro kvs h c;refine aH (aU.ck (x:=p.1) (av:=p.2) h) ?_;clear h;intro w r W g d;subst W;have c:=ae3.mp c;rw[PX,show jq x a (p::b)=_ from zr];by_cases e:p.1=x
  ·rw[if_pos e,if_pos e.symm,Ve (e▸c.1)];exact .cons f d
  ·rw[if_neg e,if_neg λq=>e q.symm]
   exact .cons g (A d c.2)
noncomputable def v7 (o:Option AO):Bool:=ae2 true (λo=>mj true o λc c=>false) o
theorem zy (a o i:aeM) (b:Pos) (l:Nat) (env:Env):aiw a (some (.Subscript o i b)) l env=pure false:=by induction a using afK<;>rfl
noncomputable def bX (e o i:Ev):Sc:=λc kn a=>e c λv c=>o c λA c=>i c λW c=>d0 .no c.st A λp o=>ix .no o λd=>afM .no W λx=>aN .no (and (and (Ng d) (v7 (c.st.get (afk p)))) (not (cM p c.mark))) (kn (c.put p (.dict (jq x v d))))
theorem Vf (C:ak c) (l:aE c A e ce) (ho:aE c A o co) (hi:aE c A i ci):bQ c A (.Assign [.Subscript o i p'] e p) (bX ce co ci):=by
 intro σ kn kr y h a qb α qc E qd r qh cX cY;refine air ?_ (zy _ _ _ _ _ _);refine l σ _ y h a qb α qc E qd r _ λqe dk val dn cL bZ h dq D F=>?_
 have G:=r.step D.kp;refine ho dk _ y h a dn cL bZ E dq G _ λov σ₂ abM eb ek dK h cw s C1=>?_
 have tF:=G.step s.kp;refine hi σ₂ _ y h a eb ek dK E cw tF _ λiv u abN H jk fY h m v hiv=>?_
 refine ma m (C1.mono v.ge) h a λq qf b o d I w hg L h=>?_
 refine Y (l7 h a) ?_;clear h hg r cY;intro f g h;subst g;refine Y L.inv ?_;clear L;intro M j B;refine gE hiv h a λx t d nC h=>?_
 refine ae (aS h a) ?_;clear h a;intro N h;refine ae (aei.mp N) ?_;clear N;intro P Q;refine ae (aei.mp P) ?_;clear P;intro abO n;have hlen:f.length<=500:=i5 abO;have R:(M.map (·.1)).Nodup:=by refine kJ j ?_;clear j;intro d d d d d d h;exact h
 have hD:H.heap.DictOf (afb W.prog W.w) qf M:=agc.mpr (ay b (m.get w) j);refine wpAny_setItem_pairs (knd:=afb W.prog W.w) (k:=x) (ag7 W.prog W.w x t) hD (λh' S T=>?_) (by rw [B.len0];exact aeE hlen (by decide))
 refine Y (agc.mp S) ?_;clear S;intro o' V X;have Z:∀ z,u.st.get (q+1)=some z->q+1<u.n->(∃ qa f,z=.obj qa f)->False:=by intro z hz _ l;refine eZ l ?_;clear l;intro qa f g;subst g;have n:v7 (u.st.get (q+1))=true:=n;rw [hz] at n;exact aX n
 have wR:∀ ps,b=afn ps->∃ pf,o'=afn pf:=λps e=>by subst e;refine be j ?_;clear j;intro d d g d;obtain⟨hx,_⟩:=g;contradiction
 refine Y (m.qH (ao':=.dict (jq x qe f)) (t:=H.toks+1) C ((aeT _).mp Q) I w Z T V (λN' qg=>.dict X ((aU.put ((F.mono (s.trans v).ge)) B R).mono qg)) wR) ?_;clear m C Q I w Z T V X F B R wR;intro N' lB eR
 exact cX _ _ _ _ h lB (D.trans (s.trans (v.trans eR))).toSts
end
section
section
variable{prog:ae9}{w:afq}{A:ae6}{E:ael->aep->Prop}{s:aep}
theorem F6:ahM (.type "dict_values") "__contains__" =pure none:=by rw[ag1,age];kernel_rfl
theorem Tf:entryFor table "proto.contains_iter" =some Builtin.«proto.contains_iter»:=ajC (by kernel_rfl)
theorem Qs {Q:ael->aep->Prop}(d:A.handled=none) (a:s.heap.IsValuesView v dd) (c:s.heap.DictAt (afb prog w) dd [] ep) (h:∀ h',(∀ b o,s.heap.get? b=some o->h'.get? b=some o)->Q (.bool false) {s with heap:=h'}):aeO (aeR prog w) A (ahF .In x (.ref v)) Q E s:=by
 show aeO _ _ (do return .bool (←contains (.ref v) x)) Q E s
 refine aek ?_
 unfold contains
 try with_reducible refine afX ?_
 refine aek (ahZ a.typeIs F6 ?_)
 show aeO _ _ (if ((none:Option ael) ==some agl)=true then _ else _) _ E s
 rw [if_neg (by decide)]
 refine aek (m:=callSpecialUnlessNone? _ _ _ _) ?_
 unfold callSpecialUnlessNone?
 refine aek (ahZ a.typeIs F6 ?_)
 refine aey ?_
 dsimp only
 refine aek (ahs ?_)
 refine aek (wpAny_tryCatch (wpAny_pyIter_values a c ?_))
 have f:(s.heap.push {cls:=.type "dict_valueiterator",data:=.fields #[.ref dd,.int 0 0,.int (([]:List (Str×ael)).length) 0,.int ep 0]}).IsValIter s.heap.objs.size dd 0 ([]:List (Str×ael)).length ep:=(dJ _ (aeJ _ rfl) rfl rfl)
 have g:(s.heap.push {cls:=.type "dict_valueiterator",data:=.fields #[.ref dd,.int 0 0,.int (([]:List (Str×ael)).length) 0,.int ep 0]}).DictAt (afb prog w) dd [] ep:=c.at' λo e=>aeq _ e
 refine aek (wpAny_runValue (aiK Tf ?_))
 unfold Builtin.«proto.contains_iter»
 dsimp only
 refine aek (wpAny_pyNext_values_end (kvs:=([]:List (Str×ael))) (knd:=afb prog w) d f g rfl λh' i=>?_)
 dsimp only
 refine aek (ahs ?_)
 refine aey ?_
 refine aey (aey (h h' λb o e=>i b o (aeN (aeS e)) (aeq _ e)))
end
variable{W:Wd}{c:Cx W}{A:ae6}{d:Nat}
noncomputable def j8{a b:Type}(z:a) (l:List b) (x:a):a:=aeL x (λc c c=>z) l
theorem kL{a b:Type}{z y₀ x:a}{l:List b}(h:j8 z l x=y₀)(e:y₀≠z):l=[]/\x=y₀:=by induction l using aeC with
 |nil=>exact⟨rfl,h⟩
 |cons=>exact absurd h.symm e
noncomputable def qw (l:List O):Bool:=aeL true (λa c d=>afM false a λc=>d) l
theorem Th (h:ah T α N vs l):qw l=true->∃ a,ItemsAre (afb prog w) a vs:=
 ah.ind (P:=λvs l=>qw l=true->∃ a,ItemsAre (afb prog w) a vs) (λc=>⟨[],.nil⟩)
  (fun{v A vs W}h r d e=>by
   have e:afM false A (λc=>qw W)=true:=e
   refine gE h e nofun λx t c c e=>?_
   refine aL (d e) ?_;clear d;intro a q;exact⟨_::a,.cons (ag7 prog w _ t) q⟩)
  (λc c c c e=>nomatch (show false=true from e)) (λc c c e=>nomatch (show false=true from e)) h
theorem EC (R:SR c σ s α N) (h:VR W.kt α N v (.tup l)) (e:qw l=true):∃ a b,v=.ref a/\(tupleKind (afb W.prog W.w)).is s.heap b a:=by
 refine aH (eY R h) ?_;clear R h;intro a d A;subst A;intro f r;obtain⟨o,g,i,n,j⟩:=f;refine aL (Th (prog:=W.prog) (w:=W.w) r e) ?_;clear r e;intro b q;exact (PJ a b rfl o d.toArray n g i j (by simpa using q))
theorem Fe{prog:ae9}{w:afq}{K:Type}[DecidableEq K]{knd:HeapKind prog w K}{h:afm}{a:aez}{o:Obj}(e:h.get? a=some o) (b:o.IsDictOf (afb prog w) []):h.DictOfH knd a []:=by
 refine kJ b ?_;clear b;intro c A W f d g d;have i:c.toList=[]:=agn.mp g.length;exact (P7 o c A e W f i (λd j=>by simp at j) List.nodup_nil)
theorem units_in1 (a:aP c d A):A.in1.units<cLine:=by
 have W:A.in1.units<=A.units+1:=by first
  |exact aeD _
  |exact af7 _
 have b:9001<cLine:=by decide
 exact agg W (agg (aeE (agf (aeE (ae0 _ _) a.units)) (by first|exact aeD _|decide)) b)
noncomputable def xI (a b:Ev):Tc:=λc k=>a c λd c=>b c λA c=>cF .no d λl=>aN .no (qw l) (d0 .no c.st A λe o=>ix .no o λW=>j8 .no W (k false c))
theorem Vg (L:ak c) (r:aP c d A){a b:aeM}{i j}{pos:Pos}(t:afH .In b=false) (u:aE c A a i) (v:aE c A b j):dB c A (.Compare a [.In] [b] pos) (xI i j):=by
 intro w M y h e s x N E R l Q z;refine ahz ?_ t;refine u w _ y h e s x N E R l _ λP S T V X Z h B m n=>?_
 refine v _ _ _ h e _ _ _ _ B (l.step m.kp) _ λvb σ₂ rh eb ek dK h g o C=>?_
 refine Y (dP h e) ?_;clear h;intro qa f;subst f;intro h;refine ae (aS h e) λp h=>?_
 refine ma g C h e λqb qc qd ao u_ lT q hg D h=>?_
 refine Y (l7 h e) ?_;clear h;intro es f;subst f;intro h;refine ae (kL h e) ?_;clear h e;intro f;subst f;intro h;refine Y D.inv λkvs F G=>?_
 obtain rfl:=G.nil_inv;refine be (EC g (n.mono o.ge) p) ?_;clear n p;intro qe H f;subst f;intro I;refine wpAny_in_heap (knd:=tupleKind (afb W.prog W.w)) (k:=H) ?_ I (g.hi _ (aeo _ q)) (Fe (g.get q) F) ?_
 ·exact units_in1 r
 ·exact afW (z _ _ _ _ _ h g.toks (m.trans o))
noncomputable def sA (a o:Ev):Tc:=λc k=>a c λW c=>o c λd c=>d0 .no c.st d λb o=>ix .no o λA=>j8 .no A (k false c)
theorem Qt (C:ak c) (D:aP c d A) (G:eI o=true) (l:(m.endLine ==n.line)=true) (H:afH .In (.Call (.Attribute o "values" m) [] [] n)=false) (I:aE c A a L) (M:aE c A o Q): dB c A (.Compare a [.In] [.Call (.Attribute o "values" m) [] [] n] pos) (sA L Q):=by
 intro S qa y h b s T N E R p qb V;refine ahz ?_ H;refine I S _ y h b s T N E R p _ λva X tT Z cL bZ h dq q tC=>?_
 refine vO G rfl (by decide) l (M X _ y h b Z cL bZ E dq (p.step q.kp) _ λvb σ₂ rh g ek dK h f mY lb=>?_)
 intro pl;refine ma f lb h b λqc x ob ao r lT u hg jA h=>?_
 refine Y (l7 h b) ?_;clear h;intro v i h;subst i;refine ae (kL h b) ?_;clear h b;intro i h;subst i;refine Y jA.inv λkvs w nA=>?_
 obtain rfl:=nA.nil_inv;have j:=f.get u;have k:g.heap.DictOf (afb W.prog W.w) x []:=agc.mpr (ay ob j w);refine kJ w λv z B uJ tj sO iV=>?_
 have hAt:g.heap.DictAt (afb W.prog W.w) x [] z:=(vt ob v j B uJ tj sO iV);have mV:=f.hi _ (aeo _ u);refine getMethod_builtin k.typeIs F.plainAttrs_dict F.slot_dict_values F.type_dict_values (λa e=>by cases e;exact (ay _ j B.2.1)) ?_
 refine eM (P:=λr=>True) rfl (λl r=>(ay _ (.inr (.inl rfl)) (af4 rfl))) ?_
 refine ahf ⟨trivial,?_⟩;refine call_meetsIn PySem.F.slot_dict_values k.typeIs PySem.F.entry_dict_values (PySem.F.args_dict_values_1 _) (meets_dict_values (afb W.prog W.w) x mV) ⟨⟨[],k⟩,?_⟩;refine Qs (ep:=z) D.handled (dJ _ (aeJ _ rfl) rfl rfl) (hAt.at' λo e=>aeq _ e) λh' hk=>?_
 have bW:=f.ext C (h':=h') (t:=g.toks) λqd o e=>hk _ _ (aeq _ e)
 exact afW (V _ _ _ _ _ h bW (q.trans mY))
noncomputable def wU (e o i:Ev):Sc:=λc kn a=>e c λv c=>o c λd c=>i c λA c=>d0 .no c.st d λp o=>ix .no o λW=>j8 .no W (cF .no A λl=>aN .no (and (and (qw l) (v7 (c.st.get (afk p)))) (not (cM p c.mark))) (kn (c.put p .any)))
theorem Ti (Q:ak c) (R:aP c d A){e o i:aeM}{r u v:Ev}{p S:Pos}(f:aE c A e r) (T:aE c A o u) (V:aE c A i v):bQ c A (.Assign [.Subscript o i S] e p) (wU r u v):=by
 intro X kn kr y h b s Z N E qa w qc cX cY;refine air ?_ (zy _ _ _ _ _ _);refine f X _ y h b s Z N E qa w _ λqd dk val dn cL bZ h dq x hv=>?_
 have B:=w.step x.kp;refine T dk _ y h b dn cL bZ E dq B _ λov σ₂ abM eb ek dK h cw D C1=>?_
 have tF:=B.step D.kp;refine V σ₂ _ y h b eb ek dK E cw tF _ λiv m abN dW jk fY h g F G=>?_
 refine ma g (C1.mono F.ge) h b λq qe qb ao j lT H hg jA h=>?_
 refine Y (l7 h b) ?_;clear h;intro n a;subst a;intro h;refine ae (kL h b) ?_;clear h;intro a;subst a;intro h;refine Y jA.inv λkvs I nA=>?_
 obtain rfl:=nA.nil_inv;refine Y (dP h b) ?_;clear h;intro qf a;subst a;intro h;refine ae (aS h b) λtG h=>?_
 refine ae (aei.mp tG) λh12 uE=>?_
 refine ae (aei.mp h12) λL l=>?_
 refine be (EC g G L) ?_;clear G L;intro t M a;subst a;intro hk;refine wpAny_setItem_heap (knd:=tupleKind (afb W.prog W.w)) (k:=M) (units_in1 R) hk (Fe (g.get H) I) (λh' hd' uR=>?_)
 refine kW hd' λo' es' ep' jE j=>?_
 have xH:∀ z,m.st.get (q+1)=some z->q+1<m.n->(∃ C n,z=.obj C n)->False:=by
  intro z hz _ f;refine eZ f ?_;clear f;intro C n a;subst a;have l:v7 (m.st.get (q+1))=true:=l;rw [hz] at l;exact aX l
 have wR:∀ P,qb=afn P->∃ pf,o'=afn pf:=λP e=>by
  subst e;refine be I λj j a j=>?_;obtain⟨hx,_⟩:=a
  contradiction
 refine Y (g.qH (ao':=.any) (t:=dW.toks+(tupleKind (afb W.prog W.w)).draws M) Q ((aeT _).mp uE) lT H xH uR jE (λN' qg=>.any) wR) λN' lB eR=>?_
 exact cX _ _ _ _ h lB (x.trans (D.trans (F.trans eR))).toSts
end
section
section
variable{prog:ae9}{w:afq}{A:ae6}{E:ael->aep->Prop}{s:aep}
theorem Pe:fillsNumberSlot (.type "tuple") "mul" =pure false:=
 PySem.fillsNumberSlot_seq (id:= "tuple.__mul__") (r:=some (.builtin "tuple.__rmul__")) ajE.lookup (by decide +kernel) F.slot_tuple_rmul.lookup (by decide +kernel)
theorem PA:seqRepeat? (.type "tuple")=pure (some (.builtin "tuple.__mul__")):=by
 unfold seqRepeat?;rw[PySem.seqSlot_of (T:= "tuple") (name:= "__mul__") (id:= "tuple.__mul__") ajE.lookup (by decide +kernel),PySem.seqSlot_of (T:= "tuple") (name:= "__rmul__") (id:= "tuple.__rmul__") F.slot_tuple_rmul.lookup (by decide +kernel)]
 rfl
theorem Pp (a:Int) (t:Tok) (l:aez) (b:Array ael) (n:Nat) (d:Option aez) (sl:Array (Option ael)): Meets (Builtin.«int.__rmul__» ⟨[.int a t,.ref l],[]⟩) (λc R s=>s.heap.get? l=some {cls:=.type "tuple",dict:=d,data:=.seq b n,slots:=sl}/\R (.ok (.ret Value.notImplemented)) s):=
 .of_wp λprog w A R s h=>by obtain⟨E,g,d,e,os⟩:=s;refine ae h ?_;clear h;intro f h;wp_walk;exact (ay _ rfl h)
theorem Qu (l:aez) (a:Array ael) (n:Nat) (d:Option aez) (sl:Array (Option ael)) (u:Tok) (b:a.isEmpty=false): Meets (Builtin.«tuple.__mul__» ⟨[.ref l,.int 0 u],[]⟩) (λc R s=>s.heap.get? l=some {cls:=.type "tuple",dict:=d,data:=.seq a n,slots:=sl}/\R (.ok (.ret (afr s.heap.objs.size))) {s with heap:=s.heap.push {cls:=agF "tuple",data:=Data.seq #[]}}):=
 .of_wp λprog w A R s h=>by obtain⟨E,g,d,e,os⟩:=s;refine ae h ?_;clear h;intro f h;wp_walk;exact (ay _ rfl h)
theorem Qv {Q:ael->aep->Prop}(c:IsTup s.heap l b) (i:b.isEmpty=false) (h:Q (.ref s.heap.objs.size) {s with heap:=s.heap.push {cls:=.type "tuple",data:=.seq #[]}}):aeO (aeR prog w) A (binaryOp .Mult (.ref l) (.int 0 u)) Q E s:=by
 refine kU (id c) ?_;clear c;intro j a e k f;obtain ⟨cls,d,data,g⟩:=j;simp only at e f;subst e f;exact wpAny_binaryOp_repeat_ref (T:= "tuple") (U:= "int") (by decide) (ay _ a rfl) (λm=>typeIs_int m 0 u) Pe F.fills_int_mul aiO PA F.slot_int_index.lookup (aif aiO (typeIs_int s 0 u) F.entry_int_rmul (F.args_int_rmul_2 _ _) (Pp 0 u l b k d g) (j6 a rfl (ay _ a rfl) (aif ajE (ay _ a rfl) F.entry_tuple_mul (F.args_tuple_mul_2 _ _) (Qu l b k d g u i) ⟨a,h⟩)))
theorem ED {Q:ael->aep->Prop}(b:s.heap.IsList l vs.toArray) (n:-(2^63:Int)<=x) (o:x<2^63) (i:vs.length*x.toNat<=256) (e:(List.replicate x.toNat vs).flatten=ws) (h:Q (.ref s.heap.objs.size) {s with heap:=s.heap.push (aeG ws.toArray 0)}):aeO (aeR prog w) A (binaryOp .Mult (.ref l) (.int x u)) Q E s:=by
 subst e;refine kU (id b) ?_;clear b;intro j a c k f;obtain⟨p,d,q,g⟩:=j;simp only at c f;subst c f;have r:vs.toArray.size*x.toNat<=256:=by simpa using i
 refine wpAny_binaryOp_repeat_ref (T:="list") (U:="int") (by decide) (ay _ a rfl) (λm=>typeIs_int m x u) noFill_list_mul F.fills_int_mul aiO repeat_list F.slot_int_index.lookup (aif aiO (typeIs_int s x u) F.entry_int_rmul (F.args_int_rmul_2 _ _) (lm_int_rmul_list_any x u l vs.toArray k d g) (j6 a rfl (ay _ a rfl) (aif F.slot_list_mul (ay _ a rfl) F.entry_list_mul (F.args_list_mul_2 _ _) (lm_list_mul_any l vs.toArray k d g x u (by simp[Builtin.List.listFitsIndex];omega) (by omega) (by simp[ah6,sizeLine];omega)) ⟨a,?_⟩)))
 rw[listMul_foldl_if];exact h
end
variable{W:Wd}{c:Cx W}{A:ae6}{d:Nat}
noncomputable def mulL (st:Tr) (a:O) (n:Nat):Option O:=aD none (eE st a) λl=>aex (aN none (and (aew n (nat_lit 1)) (aeZ l.length (nat_lit 200))) (some (.hl l))) (some (.hl [])) (aew n (nat_lit 0))
noncomputable def abP (st:Tr) (a b:O):Option O:=dU none b λj=>afF (motive:=λc=>Option O) j (λn=>cF (mulL st a n) a λl=>aN none (and (aew n (nat_lit 0)) (and (ae1 l) (not l.isEmpty))) (some (.tup []))) (λc=>none)
noncomputable def ud (a b:Ev):Ev:=λc k=>a c λd c=>b c λA c=>aD .no (abP c.st d A) λv=>k v c
theorem ah.ne0 (h:ah T α N vs l) (b:ae1 l=true) (e:(!l.isEmpty)=true):vs.toArray.isEmpty=false:=by
 induction l using aeC with
 |nil=>exact aX e
 |cons a l=>refine be (h.ck (gB b).1) ?_;clear h b;intro v d c A;subst c;rfl
theorem Vh (p:ak c) (P:aE c A a S) (T:aE c A b V):aE c A (.BinOp a .Mult b pos) (ud S V):=by
 intro X qd y h q s Z N E R I Q C;refine wpAny_BinOp ?_;refine P X _ y h q s Z N E R I _ λva dk tT dn cL bZ h dq r D=>?_
 refine T _ _ _ h q _ _ _ _ dq (I.step r.kp) _ λvb σ₂ rh w ek dK h e x lb=>?_
 have F:=D.mono x.ge;refine Y (aR h q) ?_;clear h q;intro v d h;have L:∀ {j:Nat} {z:Tok},mulL σ₂.st va j=some v->WP W A (binaryOp .Mult tT (.int (afB j) z)) Q E w:=by
  intro j z f;refine Y (aR f aO) ?_;clear f;intro l hl f;refine aH (jT e hl F) ?_;clear D;intro qa G k B M;subst k;induction m:aew j 0 using aen with
  |true=>
   obtain rfl:=aem m;have k:=aej f;subst v;refine ED (ws:=[]) B (by decide) (by decide) (by exact afj _) rfl ?_
   refine ae (e.iH p (aeG #[] 0) (t:=w.toks)) λo g=>?_
   exact C _ _ _ _ _ _ h o (r.trans (x.trans g)) (.hl (vs:=[]) (n:=0) (.head _) e.away .nil)
  |false=>
   rw[m] at f;refine ae (aS (show aN none (and (aew j 1) (aeZ l.length 200)) (some (O.hl l))=some v from f) aO) ?_;clear f;intro i hj2;refine ae (aei.mp i) λm H=>?_
   obtain rfl:=aem m;have k:=aej hj2;subst v;have H:l.length<=200:=aer H;refine ED (ws:=G) B (by decide) (by decide) (aeE (agh (Nat.mul_one _)) (aeE M.le (aeE H (by decide)))) (agD _) ?_
   refine ae (e.iH p (aeG G.toArray 0) (t:=w.toks)) λo g=>?_
   exact C _ _ _ _ _ _ h o (r.trans (x.trans g)) (.hl (n:=0) (.head _) e.away (M.mono g.ge))
 refine i4 lb d aO λqb z u_ d=>?_
 induction qb using afF with
 |negSucc=>exact aT d
 |ofNat j=>
  rcases l9 d with d|⟨l,rfl,d⟩
  ·exact L d
  ·refine ae (aS d aO) ?_;clear d;intro i d;have k:=aej d;subst v;refine ae (aei.mp i) ?_;clear i;intro m i;refine ae (aei.mp i) ?_;clear i;intro hp he;obtain rfl:=aem m;refine aH (eY e F) ?_;clear F D L;intro qa G k B qc;subst k;refine Qv (u:=z) B (qc.ne0 hp he) ?_;refine ae (e.iH p {cls:=.type "tuple",data:=.seq #[]} (t:=w.toks)) ?_;clear p;intro o g;exact C _ _ _ _ _ _ h o (r.trans (x.trans g)) (.tup (vs:=[]) (.head _) e.away ⟨rfl,rfl⟩ rfl .nil)
end
theorem Pl:ahM (.type "zip") "__getattr__" =pure none:=by rw[ag1,age];kernel_rfl
theorem PB:ahM (.type "zip") "keys" =pure none:=by rw[ag1,age];kernel_rfl
theorem OZ:entryFor table "zip.__getattribute__" =some Builtin.«object.__getattribute__»:=
 entryFor_alias (id':= "object.__getattribute__") (by kernel_rfl) (by decide +kernel) (by decide +kernel) (by kernel_rfl)
theorem O1 (a:aez) (fs:Array ael) (u:Tok):
  Meets (Builtin.«object.__getattribute__» ⟨[.ref a,.str "keys" u],[]⟩) (λA R s=>s.heap.get? a=some {cls:=.type "zip",dict:=none,data:=.fields fs}/\raisesAttr (.ref a) "keys" A R s):=
 Meets.of_wp λh w A R s b=>by
  obtain⟨c,g,d,e,os⟩:=s
  refine ae b ?_;clear b;intro f b
  have i:(⟨c,g,d,e,os⟩:aep).TypeIs (.ref a) "zip" :=(ay _ f rfl)
  have j:=PB
  have k:(["__module__", "__name__", "__qualname__", "__doc__", "__annotations__"]:List Str).contains "keys" =false:=by decide
  unfold Builtin.«object.__getattribute__»
  repeat (any_goals (first|assumption|wp_step))
  exact wpAny_raiseAttrError b.1 b.2 (attrMsg_fits (by decide +kernel) (by decide))
section
variable{prog:ae9}{w:afq}{A:ae6}{E:ael->aep->Prop}{s:aep}
theorem Vi {Q:Option ael->aep->Prop}(c:s.heap.get? a=some {cls:=.type "zip",dict:=none,data:=.fields fs}) (k:A.handled=none) (h:∀ h' tk,(∀ b o,s.heap.get? b=some o->h'.get? b=some o)->Q none {s with heap:=h',toks:=tk}):aeO (aeR prog w) A (getAttr? (.ref a) "keys") Q E s:=by
 obtain⟨l,g,d,tk,os⟩:=s
 have f:∀ i,(⟨l,g,d,i,os⟩:aep).TypeIs (.ref a) "zip" :=λm=>(ay _ c rfl)
 have n:=sub_AttributeError
 have p:=aij.lookup
 have q:=aij.bind (.ref a)
 have r:=Pl
 unfold getAttr? getAttrBy? getAttrBy
 repeat (any_goals (first|assumption|exact f _|((with_reducible show aeO _ _ (call (Value.builtin "zip.__getattribute__") _ _) _ _ _);refine aif aij (f _) OZ (F.args_zip_getattribute_2 _ _) (O1 a fs _) (bH c k (λh' i e j=>?_)))|wp_step))
 refine eZ j.there λt u v=>?_
 show aeO _ _ (getattributeRaised _ _ _ _ _ _ _) _ _ _
 unfold getattributeRaised
 repeat (any_goals (first|assumption|wp_step))
 exact h _ _ j.keeps
theorem Tj{Q:Option Obj->aep->Prop}(h:Q (s.heap.get? a) s):aeO M A (loadIfAlive a) Q E s:=λw p b=>by
 show Sem.wp M w (.loadIfAlive a .pure) _ _ p s;rw[Sem.wp_loadIfAlive];simpa using h
theorem Tn {z b i d j T:aez}{k:Nat->ael->Prop}{f:Nat->afm->Prop}(g:ahK prog w A d l m k f) (n:z∉l) {p:Obj}{Q:Fin->aep->Prop} (a:agZ s.heap z b i (aff T)) (q:s.heap.get? T=some p) (r:afL s.heap b (.ref d) (.ref j)) (G:b≠z) (t:f m s.heap) (u:∀ h' tk e,(∀ c o,c≠z->c≠d->s.heap.get? c=some o->h'.get? c=some o)->(∃ o,h'.get? e=some o/\o.cls=.type "StopIteration")->E (.ref e) {s with heap:=h',toks:=tk}): aeO (aeR prog w) A (Builtin.«zip.__next__» ⟨[.ref z],[]⟩) Q E s:=by
 show aeO _ _ (field (.ref z) 2 >>=_) _ _ _;refine aek (afc a rfl (x:=.bool false) rfl ?_);show aeO _ _ (field (.ref z) 3 >>=_) _ _ _;refine aek (afc a rfl (x:=.ref b) rfl ?_);refine aek (agm r rfl ?_);show aeO _ _ (afy (.ref z) >>=_) _ _ _;refine aek ?_;unfold afy;refine aek (afc a rfl (x:=aff T) rfl ?_);show aeO _ _ (loadIfAlive ((T:Int).toNat) >>=_) _ _ _;rw[ajl];refine aek (Tj ?_);rw[q];simp only[Option.isNone_some,ahv,if_false];refine aek (afc a rfl (x:=.bool false) rfl ?_);rw[if_pos (by decide)]
 refine aek (agW a (by simp) λH I h=>?_)
 refine aey ?_;simp only[ahv,if_false];refine aek ?_;rw[←Array.forIn_toList];rw[aiI];refine aek (aek (afX ?_));show aeO _ _ (afE (.ref d) >>=_) _ _ _;refine aek (g.done _ _ _ (iB g t h n) λv e y B=>?_)
 exact u v s.toks e (λc o C D F=>y _ _ D (h.extBut _ _ C F)) B
theorem Pm {z a j d k T:aez}{l:Nat->ael->Prop}{f:Nat->afm->Prop}(m:ahK prog w A.in1 d n p l f) (r:z∉n) {t:Obj}{Q:Option ael->aep->Prop} (g:agZ s.heap z a j (aff T)) (u:s.heap.get? T=some t) (v:afL s.heap a (.ref d) (.ref k)) (x:a≠z) (y:f p s.heap) (B:∀ h' tk,(∀ c o,c≠z->c≠d->s.heap.get? c=some o->h'.get? c=some o)->Q none {s with heap:=h',toks:=tk}):aeO (aeR prog w) A (aiq (.ref z)) Q E s:=by
 have h:s.TypeIs (.ref z) "zip" :=(ay _ g rfl);unfold aiq;refine aek (ahS (afR (name:=agE "__next__") h aht (afU aht h ajB (Tn m r g u v x y λh' tk e q i=>?_) (ajm _))))
 refine Y i ?_;clear i;intro o C D;refine aek (ait (T:= "StopIteration") (b:=true) (ay o C D) isSubtype_stop ?_);exact aey (B _ _ q)
end
section
section
variable{prog:ae9}{w:afq}{A:ae6}{E:ael->aep->Prop}{s:aep}
theorem Ff:entryFor table "dict.update.loop" =some Builtin.«dict.update.loop»:=ajC (by kernel_rfl)
structure qO (h:afm) (z TI TO i1 i2 l1 l2:aez) (xs ys:Array ael):Prop where
 z:agZ h z TI TO .none
 ti:afL h TI (.ref i1) (.ref i2)
 to:afL h TO .none .none
 i1:h.IsTupleIter i1 l1 0
 i2:h.IsTupleIter i2 l2 0
 l1:h.IsTuple l1 xs
 l2:h.IsTuple l2 ys
theorem qO.push{h:afm}{z a c i1 i2 l1 l2 d f}(x:qO h z a c i1 i2 l1 l2 d f){h':afm}(e:∀ b o,h.get? b=some o->h'.get? b=some o):qO h' z a c i1 i2 l1 l2 d f:=
 ⟨e _ _ x.z,e _ _ x.ti,e _ _ x.to,x.i1.at λo=>e _ o,x.i2.at λo=>e _ o,x.l1.at λo=>e _ o,x.l2.at λo=>e _ o⟩
theorem F7{h:afm}{c:Array ael}(a:h.IsTupleIter i l 0)(b:h.IsTuple l c):l≠i:=λe=>by
 subst e;refine cK a ?_;clear a;intro o A E d;refine cK b ?_;clear b;intro f s w d;rw[A]at s;have g:=aej s;subst f;rw[E]at w;exact absurd w (by decide)
theorem Tp {z p u a l n G D:aez}{R:aip->aep->Prop}(P:A.handled=none) (Z:lP z p u a l [a,n] [l,G]) (S:qO s.heap z p u a l n G d H) (hn:d.size=H.size) (h1:d.size<=1)
  (f:D≠z/\D≠u/\D≠a/\D≠l) (j:s.heap.DictOf (afb prog w) D []) (hk:∀ (i:Nat) x,d[i]?=some x->∃ k:Str,(afb prog w).is k x=true)
  (h:∀ h' tk kvs,(d.size=0->kvs=[])->(∀ x y k,d[0]?=some x->H[0]?=some y->(afb prog w).is k x=true->kvs=[(k,y)])->h'.DictOf (afb prog w) D kvs->(∀ c o,c≠z->c≠u->c≠a->c≠l->c≠D->s.heap.get? c=some o->h'.get? c=some o)->R (.ok (.ret .none)) {s with heap:=h',toks:=tk}):
  agk (aeR prog w) A (.builtin "dict.update.loop" ⟨[.ref D,.ref z,aff 0,.none],[]⟩) R s:=by
 have abQ:z∉[a,n]:=Z.z1
 have LZ:n≠a:=F7 S.i1 S.l1
 have abR:G≠l:=F7 S.i2 S.l2
 refine aiK Ff ?_
 unfold Builtin.«dict.update.loop»
 dsimp only
 have D1:=pO (prog:=prog) (w:=w) (A:=(A.under (.builtin "dict.update.loop" ⟨[.ref D,.ref z,aff 0,.none],[]⟩)).in1) P a n LZ d
 have D2:=pO (prog:=prog) (w:=w) (A:=(A.under (.builtin "dict.update.loop" ⟨[.ref D,.ref z,aff 0,.none],[]⟩)).in1) P l G abR H
 rcases Nat.lt_or_ge 0 d.size with I|hz0
 ·have e1:d.size=1:=ajK h1 I
  refine aek (DS D1 D2 Z S.z S.ti S.to ⟨S.i1,S.l1⟩ ⟨S.i2,S.l2⟩ I (hn▸I) λg tk x y L hy z1 to1 yx NA Q v=>?_)
  dsimp only
  have DTO:D≠u:=f.2.1
  have Yy:∀ o,s.heap.get? D=some o->g.get? D=some o:=λo=>v D o f.1 DTO f.2.2.1 f.2.2.2
  have Yz:g.DictOf (afb prog w) D []:=by
   refine kW j ?_;clear j;intro o q t E r
   exact (vV o q t (Yy o E) r)
  have hTy:({s with heap:=g,toks:=tk}:aep).TypeIs (.ref s.heap.objs.size) "tuple" :=(ay _ Q rfl)
  refine aek (afX (aek (wpAny_tryCatch ?_)))
  unfold Builtin.Dict.pairItems
  refine aek (aiD hTy ?_)
  rw [if_pos (by decide)]
  refine aek (agm Q rfl ?_)
  refine aey ?_
  show aeO _ _ (holding [x,y] (dictSet D x y)) _ _ _
  refine aL (hk 0 x L) ?_;clear hk;intro k NW
  refine afX (wpAny_dictSet_pairs (knd:=afb prog w) (k:=k) NW Yz λF HF AX=>?_)
  refine aey ⟨aib _ (by decide +kernel),aiK Ff ?_⟩
  unfold Builtin.«dict.update.loop»
  dsimp only
  have D1':=pO (prog:=prog) (w:=w) (A:=(A.under (.builtin "dict.update.loop" ⟨[.ref D,.ref z,aff (0+1),.none],[]⟩)).in1) P a n LZ d
  have TIz:p≠z:=Z.TIz
  have TIi1:p≠a:=i0 Z.CK Z.pn
  have TIi2:p≠l:=i0 Z.CL Z.rE
  have DTI:D≠p:=λe=>by
   refine cj j ?_;clear j;intro o q t E T B
   rw [e,S.ti] at E
   have V:=aej E;clear E;subst o
   exact absurd (show agF "tuple" =agF "dict" from T.1) (by decide)
  have DT:D≠s.heap.objs.size:=λe=>by
   refine kW j ?_;clear j;intro o q t E B
   exact afG _ (e▸aeS E)
  have Dl1:D≠n:=λe=>by
   refine cj j ?_;clear j;intro o q t E T B
   refine cK S.l1 λo' jE iU B=>?_
   rw [e,jE] at E
   have V:=aej E;clear E;subst o'
   exact absurd (show agF "tuple" =agF "dict" from iU.symm.trans T.1) (by decide)
  have C:∀ b o,b≠D->g.get? b=some o->F.get? b=some o:=λb o hb e=>(AX.2 b hb).trans e
  have z2:agZ F z p u (aff s.heap.objs.size):=C _ _ f.1.symm z1
  have ti2:afL F p (.ref a) (.ref l):=C _ _ DTI.symm (v _ _ TIz Z.TITO TIi1 TIi2 S.ti)
  have abS:F.IsTupleIter a n d.size/\F.IsTuple n d:=by
   rw [e1]
   exact ⟨yx.1.at λo=>C _ o f.2.2.1.symm,yx.2.at λo=>C _ o Dl1.symm⟩
  refine aek (Pm D1' abQ z2 (C _ _ DT.symm Q) ti2 TIz abS λdN tn me=>?_)
  dsimp only
  refine aek (m:=ajF _ _) (aey ?_)
  refine aey (h dN tn [(k,y)] (λe=>absurd I (e▸afG 0)) (λx' y' k' W X uS=>?_) ?_ λc o M c2 N c4 c5 e=>me _ _ M N (C _ _ c5 (v _ _ M c2 N c4 e)))
  ·rw [L] at W;have V:=aej W;clear W;subst x'
   rw [hy] at X;have V:=aej X;clear X;subst y'
   rw [(afb prog w).inj _ _ _ NW uS]
  ·refine kW HF ?_;clear HF;intro o q t E r
   exact (vV o q t (me _ _ f.1 f.2.2.1 E) r)
 ·have e0:d.size=0:=Nat.le_zero.mp hz0
  have e0':H.size=0:=hn▸e0
  refine aek (DU D1 D2 Z S.z S.ti S.to (k:=0) ⟨S.i1,S.l1⟩ ⟨S.i2,S.l2⟩ e0.symm (afj _) λg tk v=>?_)
  dsimp only
  refine aek (m:=ajF _ _) (aey ?_)
  refine aey (h g tk [] (λB=>rfl) (λx y k L B B=>?_) ?_ λc o M c2 N c4 c5 e=>v _ _ M c2 N c4 e)
  ·exact absurd (agw.mp L).1 (by rw [e0];exact afG 0)
  ·refine kW j ?_;clear j;intro o q t E r
   exact (vV o q t (v _ _ f.1 f.2.1 f.2.2.1 f.2.2.2 E) r)
theorem DZ {Q:ael->aep->Prop}(t:A.handled=none) (Z:lP z G m g j [g,H] [j,I]) (S:qO s.heap z G m g j H I a u) (L:a.size=u.size) (M:a.size<=1)
  (N:∀ (i:Nat) x,a[i]?=some x->∃ k:Str,(afb prog w).is k x=true)
  (h:∀ h' tk kvs,(a.size=0->kvs=[])->(∀ x y k,a[0]?=some x->u[0]?=some y->(afb prog w).is k x=true->kvs=[(k,y)])->h'.DictOf (afb prog w) s.heap.objs.size kvs->(∀ c o,c≠z->c≠m->c≠g->c≠j->s.heap.get? c=some o->h'.get? c=some o)->Q (.ref s.heap.objs.size) {s with heap:=h',toks:=tk}):
  aeO (aeR prog w) A (call (.type "dict") [.ref z]) Q E s:=by
 refine callType_codes (Q₁:=λv B=>v=.ref s.heap.objs.size/\B={s with heap:=s.heap.push {cls:=.type "dict",data:=.dict #[]}}) F.kt_called_dict (F.kt_typeCall_dict_1 _) F.entry_dict_init (kt_code_dict_new _ ⟨rfl,rfl⟩) ?_
 rintro v B ⟨rfl,rfl⟩
 have l:(s.heap.push {cls:=.type "dict",data:=.dict #[]}).DictOf (afb prog w) s.heap.objs.size []:=ajL s.heap
 have n:=S.push (h':=s.heap.push {cls:=.type "dict",data:=.dict #[]}) λb o e=>aeq _ e
 have d:∀ {b:aez}{o:Obj},s.heap.get? b=some o->s.heap.objs.size≠b:=λe q=>afG _ (q▸aeS e)
 have P:s.heap.objs.size≠z/\s.heap.objs.size≠m/\s.heap.objs.size≠g/\s.heap.objs.size≠j:=(j6 (d S.z) (d S.to) (by refine Y S.i1 λo f R=>?_;exact d f) (by refine Y S.i2 ?_;clear S;intro o f R;exact d f))
 refine (bH l.typeIs (F.args_dict_init_2 _ _) ?_)
 unfold Builtin.«dict.__init__»
 refine aek ?_
 unfold Builtin.Dict.selfAndRest
 refine aek (wpAny_notOrdered_dict l.typeIs ?_)
 show aeO _ _ (pure (s.heap.objs.size,[afr z])) _ _ _
 refine aey ?_
 show aeO _ _ (ajJ "dict.__init__" s.heap.objs.size (.ref z) [] .none) _ _ _
 unfold ajJ
 have T:∀ tk,({s with heap:=s.heap.push {cls:=.type "dict",data:=.dict #[]},toks:=tk}:aep).TypeIs (.ref z) "zip" :=λtk=>(ay _ n.z rfl)
 refine aek (aiD (T s.toks) ?_)
 rw [if_pos (by decide)]
 refine aek (Vi n.z t λh' tk p=>?_)
 rw [if_pos (by decide)]
 refine aek (ahs ?_)
 have C:=n.push p
 refine aek (ajD C.z ?_)
 refine aey ⟨aib _ (by decide +kernel),?_⟩
 have V:h'.DictOf (afb prog w) s.heap.objs.size []:=by
  refine kW l ?_;clear l;intro o W X f r
  exact (vV o W X (p _ _ f) r)
 refine Tp (D:=s.heap.objs.size) t Z C L M P V N λNm abT kvs e0 e1 hd keep=>?_
 exact ⟨rfl,h Nm abT kvs e0 e1 hd λc o c1 c2 c3 c4 e=>keep c o c1 c2 c3 c4 (λq=>d e q.symm) (p _ _ (aeq _ e))⟩
end
variable{W:Wd}{c:Cx W}{A:ae6}{d:Nat}
noncomputable def HG (f e:List O):Option (List (Str×O)):=aeC (motive:=λc=>Option (List (Str×O))) f (j8 none e (some [])) λa r=>j8 none r (iS none e λb=>afM none a λx=>aN none b.sure (some [(x,b)]))
theorem Tq (f:HG g m=some h) (i:ah T α N j g) (k:ah T α N l m):(j=[]/\l=[]/\h=[])\/∃ x t w b,j=[.str x t]/\l=[w]/\h=[(x,b)]/\VR T α N w b:=by
 induction g using aeC with
 |nil=>
  refine ae (kL f aO) ?_;intro c e;subst c;exact .inl ⟨i.nil_inv,k.nil_inv,(aej e).symm⟩
 |cons a r=>
  refine ae (kL f aO) ?_;clear f;intro c e;subst c;refine Y (jc e aO) ?_;clear e;intro b c e;subst c;refine Y (gD e aO) ?_;clear e;intro x c e;subst c;refine ae (aS e aO) λA e=>?_
  refine Y (kT i rfl) λq W d=>?_
  refine Y (kT k (aei.mpr ⟨A,rfl⟩)) λn o p=>?_
  refine Y d.inv ?_;clear d;intro t c s;subst c;exact .inr (pR _ t n _ W o ((aej e).symm) p)
noncomputable def pZ (e f:Ev):Ev:=λc k=>e c λa c=>f c λb c=>cF .no a λd=>cF .no b λA=>aD .no (HG d A) λW=>aN .no c.room (k (.ref c.n) (c.push (.dict W)))
theorem PY (s:ak c) (L:aP c d A) {n z:aeM}{nd nz:Nat}{c1 c2:Ev}(M:aeH n=false) (N:aeH z=false) (C2:c.scope.names[nd]?=some (("dict" :Str),ae5)) (hxz:c.scope.names[nz]?=some (("zip" :Str),ae5)) (C3:W.G.boot "dict" =true) (hbz:W.G.boot "zip" =true)
  (CV:aE c A n c1) (CW:aE c A z c2):aE c A (.Call (.Name "dict" dp) [.Call (.Name "zip" zp) [n,z] [] p1] [] p2) (pZ c1 c2):=by
 intro σ qe y h l qa α qb E R Q qc hQ;refine Call_ (jY (v:=.type "dict") s C2 (by decide) C3 (by decide +kernel) R ?_)
 refine eM (P:=λg=>True) rfl (λB g=>(ay _ (.inr (.inl rfl)) (af4 rfl))) ?_
 refine agq ?_ (fz rfl);refine Call_ (jY (v:=.type "zip") s hxz (by decide) hbz (by decide +kernel) R ?_)
 refine eM (P:=λg=>True) (by rw [afA,afA,M,N];rfl) (λB g=>(ay _ (.inr (.inl rfl)) (af4 rfl))) ?_
 refine agq (CV σ _ y h l qa α qb E R Q _ λqf dk Wy dn cL bZ h dq S tC=>?_) (fz M)
 refine agq (CW dk _ y h l dn cL bZ E dq (Q.step S.kp) _ λb σ₂ Wz a ek dK h C T V=>?_) (fz N)
 refine ahf ⟨trivial,?_⟩;have X:=tC.mono T.ge;refine Y (dP h l) ?_;intro l1 j Z;subst j;refine Y (dP Z l) ?_;clear Z;intro l2 j h4;subst j;refine Y (aR h4 l) λes hes h5=>?_
 refine ae (aS h5 l) λhr h6=>?_
 have h:=h6;refine aH (eY C X) ?_;clear X;intro b1 CX j D r1;subst j;refine aH (eY C V) ?_;clear V;intro b2 uQ j F r2;subst j;have oW:b1<a.heap.objs.size:=by refine Y D λo G g=>?_;exact aeS G
 have oX:b2<a.heap.objs.size:=by refine Y F λo G g=>?_;exact aeS G
 refine D6 D F λm hz CM CN uN uO ed H=>?_
 refine ahf ⟨trivial,?_⟩;have ZS:qO m (a.heap.objs.size+4) (a.heap.objs.size+2) (a.heap.objs.size+3) a.heap.objs.size (a.heap.objs.size+1) b1 b2 CX.toArray uQ.toArray:=⟨hz,CM,CN,uN,uO,Heap.IsTuple.at D λo e=>H _ o e,Heap.IsTuple.at F λo e=>H _ o e⟩
 have done:∀ f k p,f.DictOf (afb W.prog W.w) m.objs.size p->aU W.kt ek dK p es->(∀ c o,c≠a.heap.objs.size+4->c≠a.heap.objs.size+3->c≠a.heap.objs.size->c≠a.heap.objs.size+1->m.get? c=some o->f.get? c=some o)->qc (.ref m.objs.size) {a with heap:=f,toks:=k}:=by
  intro f k p q hb r;have jz:∀ b o,a.heap.get? b=some o->f.get? b=some o:=λb o e=>by
   have u:=aeS e;exact r b o (aeN (aet u (ae0 _ _))) (aeN (aet u (ae0 _ _))) (aeN u) (aeN (aet u (ae0 _ _))) (H _ _ e)
  refine Y (agc.mp q) λo' jE NS=>?_
  have f5:a.heap.objs.size<=m.objs.size:=by rw [ed];exact ae0 _ _
  have bW:=C.own s (own:=[(m.objs.size,o')]) (t:=k) jz (λqg B=>by rw [aev.mp B];exact ⟨jE,f5⟩) (afe _ _)
  refine ae (SR.adopt (ao:=.dict es) s hr bW λqd=>.dict NS (hb.mono qd.ge)) λlB eR=>?_
  exact hQ _ _ _ _ _ _ h lB (S.trans (T.trans eR)) (.ref (kG bW.len))
 rcases Tq hes r1 r2 with ⟨rfl,rfl,rfl⟩|⟨x,I,qh,b,rfl,rfl,rfl,hwb⟩
 ·refine DZ L.handled (Af oW oX) ZS rfl (afj _) (λi x w=>nomatch w) λf k p e0 g q r=>?_
  obtain rfl:=e0 rfl;exact done f k [] q .nil r
 ·refine DZ L.handled (Af oW oX) ZS rfl (aeD _) (λi x' w=>?_) λf k p g n q r=>?_
  ·have:x'=.str x I:=by
    induction i using aeI with
    |zero=>exact (aej w).symm
    |succ i=>exact aT w
   exact ⟨x,by rw [this];exact ag7 W.prog W.w x I⟩
  ·obtain rfl:=n _ _ x rfl rfl (ag7 W.prog W.w x I);exact done f k _ q (.cons hwb .nil) r
end
open Sem (wp)
section
variable{prog:ae9}{w:afq}{A:ae6}{R:aip->aep->Prop}{E:ael->aep->Prop}{h:afm}{g:Array GenState}{d:Drawn}{t:Nat}{os:afw}
variable{nm q:Str}{C N:aez}{bs bm:List ael}{hdct:Bool}{sn:List Str}{sub:List ael}{ab:Bool}{col:Option Bool}{dd:Option aez}{k0 k1 k2 k3 k5:Option ael}
noncomputable abbrev i6:String:="Exception.__new__"
structure qP (C:aez)(bm:List ael):Prop where
 BQ:(afr C::bm).contains (.type "Exception")=true
 hasB:(afr C::bm).contains (.type "BaseException")=true
 noA:(afr C::bm).contains (.type "AttributeError")=false
 noN:(afr C::bm).contains (.type "NameError")=false
theorem PC (B:qP C bm){Q:Unit->aep->Prop}(a:h.get? C=some (ahb nm q C N bs bm hdct sn sub ab col dd k0 k1 k2 k3 k5 i6)) (b:Q () ⟨h,g,d,t,os⟩):aeO M A (ahN i6 ⟨.ref C::rest,[]⟩) Q E ⟨h,g,d,t,os⟩:=by
 have F:=aha
 have w:=B.BQ
 have R:=F.noStar
 simp only[ahN,F.newKind,F.newSplit,F.newRow]
 repeat (first|refine agb a ?_|(refine agK a ?_;rw[w])|refine wpAny_staticBase_exc a ?_|refine wpAny_madeBy_exc a ?_|simp only[bne_self_eq_false,ahv,if_false]|wp_step)
 exact b
theorem WH (B:qP C bm) (a:h.get? C=some (ahb nm q C N bs bm hdct sn sub ab col dd k0 k1 k2 k3 k5 i6)) (b:R (.ok (.ret (.ref (h.objs.size+1)))) ⟨(h.push {cls:=.type "tuple",data:=.seq rest.toArray}).push {cls:=.ref C,data:=.fields #[.ref h.objs.size,.none,.none,.none,.bool false,.none]},g,d,t,os⟩) (hrest:rest.length<=sizeLine:=by size_fits): agk (aeR prog w) A (.builtin i6 ⟨.ref C::rest,[]⟩) R ⟨h,g,d,t,os⟩:=by
 have F:=aha
 have f:=F.ends
 have E:=B.BQ
 have c:=B.noA
 have e:=B.noN
 refine codeAny_builtinAt F.entry ?_
 unfold Builtin.«BaseException.__new__»
 refine PySem.wpAt_bind ?_
 show PySem.wpAt _ _ _ (stack >>=_) _ _ _
 refine PySem.wpAt_bind (PySem.wpAt_stack λp below=>PySem.wpAt_of_wpAny ?_)
 wp_walk
 refine PySem.wpAt_of_wpAny ?_
 rw[F.owner]
 repeat (first|with_reducible refine wpAny_madeHere_exc F.canon a ?_|with_reducible refine agb a ?_|(with_reducible refine agK a ?_;first|rw[E]|rw[c]|rw[e])|wp_step)
 show R _ _
 rw[af9]
 exact b
theorem PD (B:qP C bm) {Q:Fin->aep->Prop}
  (a:h.get? C=some (ahb nm q C N bs bm hdct sn sub ab col dd k0 k1 k2 k3 k5 i6)) (j:∀ h₁:afm,(∀ b o,h.get? b=some o->h₁.get? b=some o)->Looks (aeR prog w) h₁ (ahM (.ref C) "__init__") (some (.ref c)))
  (l:h.get? c=some m) (n:m.cls=.type "function")
  (p:∀ h' e,Heap.MadeExcOf h h' e (.ref C) rest->h.objs.size<=e->
   aeO (aeR prog w) A (call (.ref c) (.ref e::rest)) (λr f=>r=.none/\Q (.done (.ret (.ref e))) f) E ⟨h',g,d,t,os⟩) (hrest:rest.length<=sizeLine:=by size_fits):
  aeO (aeR prog w) A (Builtin.«type.__call__» ⟨.ref C::rest,[]⟩) Q E ⟨h,g,d,t,os⟩:=by
 repeat (first|with_reducible refine agb a ?_|with_reducible refine wpAny_madeBy_exc a ?_|wp_step)
 refine codeAny_call_builtin_code (aib _ aha.quiet) (PC B a ?_)
 refine WH B a ?_ hrest
 show aeO _ _ _ _ _ _
 have k:∀ b o,h.get? b=some o->((h.push {cls:=.type "tuple",data:=.seq rest.toArray}).push {cls:=.ref C,data:=.fields #[.ref h.objs.size,.none,.none,.none,.bool false,.none]}).get? b=some o:=λb o e=>aeq _ (aeq _ e)
 have s:=k _ _ a
 have u:=k _ _ l
 have R:((h.push {cls:=.type "tuple",data:=.seq rest.toArray}).push
   {cls:=.ref C,data:=.fields #[.ref h.objs.size,.none,.none,.none,.bool false,.none]}).get? (h.objs.size+1)=some
   {cls:=.ref C,data:=.fields #[.ref h.objs.size,.none,.none,.none,.bool false,.none]}:=by heap_get
 have v:(afr C::bm).contains (.ref C)=true:=by simp
 unfold isInstance
 repeat (first|with_reducible refine agb R ?_|(with_reducible refine agK s ?_;rw[v])|wp_step)
 show aeO _ _ (ahM (.ref C) _) _ _ _
 refine (j _ k).at ?_
 refine afX (aek ?_)
 unfold bindSpecial
 refine aek (aiD (T:= "function") (ay _ u n) ?_)
 rw[if_pos (by decide)]
 refine aey (aek (afN (p _ (h.objs.size+1) ⟨k,aiN (af7 _),h.objs.size,R,aiN (aeD _),?_⟩ (af7 _)) (λr f i=>?_) λy y x=>x))
 ·exact aeq _ (Heap.get?_push_at rfl rfl)
 ·refine ae i ?_;clear i;intro z D;subst z
  wp_walk
  exact D
theorem Vj (B:qP C bm){Q:ael->aep->Prop} (a:h.get? C=some (ahb nm q C N bs bm hdct sn sub ab col dd k0 k1 k2 k3 k5 i6)) (f:∀ h₁:afm,(∀ b o,h.get? b=some o->h₁.get? b=some o)->Looks (aeR prog w) h₁ (ahM (.ref C) "__init__") (some (.ref c))) (i:h.get? c=some j) (k:j.cls=.type "function") (l:∀ h' e,Heap.MadeExcOf h h' e (.ref C) rest->h.objs.size<=e-> aeO (aeR prog w) (A.under (.builtin "type.__call__" ⟨.ref C::rest,[]⟩)) (call (.ref c) (.ref e::rest)) (λr m=>r=.none/\Q (.ref e) m) E ⟨h',g,d,t,os⟩) (hrest:rest.length<=sizeLine:=by size_fits): aeO (aeR prog w) A (call (.ref C) rest) Q E ⟨h,g,d,t,os⟩:=by
 have p:=tc_lookup
 have s:=PySem.tc_bind (.ref C)
 have u:(⟨h,g,d,t,os⟩:aep).TypeIs (.ref C) "type" :=(ay _ a rfl)
 refine agR (codeAny_of_tree ?_)
 show aeO _ _ (callAny (.ref C) _) _ _ _
 repeat (any_goals (first|assumption|with_reducible refine agb a ?_|wp_step))
 refine ⟨rfl,?_⟩
 refine codeAny_call_builtin_at (aib _ (by decide +kernel)) entry_typeCall (wpAny_check_type_call_sub a (PD (hrest:=hrest) B a f i k λh' e R n=>?_))
 exact l h' e R n
end
open PySem.Builtin PySem.Builtin.ObjectAttr
open Sem (wp)
section
variable{prog:ae9}{w:afq}{A:ae6}{R:aip->aep->Prop}{E:ael->aep->Prop}{h:afm}{g:Array GenState}{d:Drawn}{t:Nat}{os:afw}
variable{nm q:Str}{C N x:aez}{bs bm:List ael}{sn:List Str}{sub:List ael}{ab:Bool}{col:Option Bool}{dd:Option aez}{k0 k1 k2 k3 k5:Option ael}{newId:String}{mA:Str->Option ael}{name:Str}{v:ael}
theorem Vk (B:qP C bm) {Q:ael->aep->Prop}
  (f:h.get? C=some (ahb nm q C N bs bm hdct sn sub ab col dd k0 k1 k2 k3 k5 newId)) (i:h.get? e=some j) (o:j.cls=.ref C) (k:j.data=.fields vs) (l:vs[0]?=some (.ref t0))
  (c:Q .none ⟨(h.push {cls:=.type "tuple",data:=.seq rest.toArray}).update e (ahQ (·.setIfInBounds 0 (.ref h.objs.size))),g,d,t,os⟩) (hrest:rest.length<=sizeLine:=by size_fits):
  aeO (aeR prog w) A (call (.builtin "Exception.__init__") (.ref e::rest)) Q E ⟨h,g,d,t,os⟩:=by
 have F:=aha
 have p:=B.BQ
 have s:=F.noStar
 refine agR (codeAny_call_builtin F.init.plain F.initEntry ?_)
 have uT:∀ {v:ae6} {P:Unit->aep->Prop} {R:ael->aep->Prop},P () ⟨h,g,d,t,os⟩->aeO (aeR prog w) v (ahN "Exception.__init__" ⟨.ref e::rest,[]⟩) P R ⟨h,g,d,t,os⟩:=by
  intro v P R c
  simp only[ahN,F.initKind,F.initSplit,F.initRow]
  repeat (first|(with_reducible refine agb i ?_;rw[o])|with_reducible refine agb f ?_|(with_reducible refine agK f ?_;rw[p])|wp_step)
  refine aji ?_
  rw[show ∀ (a b:String) (n:Nat),Bind.check ⟨.positional, "*", "Exception",.self,[⟨"args",.varPos,false⟩]⟩ a b n (List.map (λx=>x.fst) ({pos:=afr e::rest}:Args).kw)=pure () from
   λa b n=>check_star_args _ _ _ _ _ _]
  exact aey c
 refine uT ?_
 unfold Builtin.«BaseException.__init__»
 dsimp only
 rw[if_neg (by simp)]
 unfold newTuple Builtin.BaseException.bexcPut
 have r:0<vs.size:=(agw.mp l).1
 have m:=aeq (h:=h) {cls:=.type "tuple",data:=.seq rest.toArray} i
 refine aek (afQ (aek (aek (afc m k l (aek (ahc m k r ?_))))) (by show rest.toArray.size<=sizeLine;rw[afi];exact hrest))
 exact wpAny_letGo (aey c)
theorem Ts {Q:Fin->aep->Prop} 
  (G:h.get? C=some (ahb nm q C N bs bm true sn sub ab col dd k0 k1 k2 k3 k5 newId)) (W:Looks (aeR prog w) h (ahM (.ref C) name) none) (X:refuseLoop (.ref x) "__setattr__" (.ref C::bm)=pure ()) (I:h.Inst x C mA)
  (H:∀ h' Z,h'.Inst x C (λy=>if y=name then some v else mA y)->
   (∀ b o,b≠x->(∀ c a,h.get? x=some c->c.dict=some a->b≠a)->h.get? b=some o->h'.get? b=some o)->
   (∀ c,h.get? x=some c->∃ i,h'.get? x=some i/\i.cls=c.cls/\i.data=c.data/\i.slots=c.slots/\(∀ a,c.dict=some a->i.dict=some a)/\((∀ a,c.dict=some a->False)->∃ a,i.dict=some a/\h.objs.size<=a))->Q (.done (.ret .none)) ⟨h',g,d,Z,os⟩) (L:Within mA ns:=by within_ways) (ed:ns.length<=sizeLine:=by size_fits):
  aeO (aeR prog w) A (Builtin.«object.__setattr__» ⟨[.ref x,.str name tk,v],[]⟩) Q E ⟨h,g,d,t,os⟩:=by
 refine j1 I ?_;clear I;intro o R m s hd
 rw[osa_eq,refuse_eq]
 have P:Looks (aeR prog w) h (typeOf (.ref x)) (.ref C):=by
  have:=(Looks.ld (M:=aeR prog w) (part:=none) R).andThen (f:=λo=>pure o.cls) (b:=o.cls) .now
  rw[m]at this
  exact this
 refine aek (aek (P.here (aek (wpAny_mroOf_exc G ?_))))
 rw[X]
 refine aey (aek (P.here (aek (W.here ?_))))
 refine aek (aey ?_)
 dsimp only
 unfold storeInOwnDict
 refine aek (aey ?_)
 show aeO _ _ ((ownDictForStores (.ref x)) >>=_) _ _ _
 refine aek ?_
 show aeO _ _ (instanceDict x true) _ _ _
 unfold instanceDict
 refine aek (wpAny_loadPart R ?_)
 rw[m]
 refine aek ?_
 unfold classData
 refine aek (ajp G (aey ?_))
 dsimp only
 simp only[Bool.not_true,ahv,if_false]
 rcases hd with ⟨S,hmA⟩|⟨a,n,u,pq⟩
 ·rw[S]
  dsimp only
  rw[if_neg (by simp[typeHasDict])]
  have T:(h.push {cls:=.type "dict",data:=.dict #[]}).get? x=some o:=aeq _ R
  have z:x≠h.objs.size:=aeN (aeS R)
  have fin:aeO (aeR prog w) A (do
    let d←alloc {cls:=.type "dict",data:=.dict #[]}
    update x λo=>{o with dict:=some d}
    dictMade (.ref C) x d) (λqa s'=>aeO (aeR prog w) A (match qa with|some d=>storeInDict d (.str name tk) name v|none=>noDictFor (.ref x) (.ref C) name (none:Option ael).isSome) Q E s') E ⟨h,g,d,t,os⟩:=by
   refine aek (wpAny_alloc' ?_)
   refine aek (wpAny_update' T ?_)
   refine aey ?_
   have hgd:((h.push {cls:=.type "dict",data:=.dict #[]}).update x λo=>{cls:=o.cls,dict:=some h.objs.size,data:=o.data,slots:=o.slots}).get? h.objs.size
     =some {cls:=.type "dict",data:=.dict #[]}:=
    (aiU _ _ _ _ z.symm).trans (Heap.get?_push_at rfl rfl)
   have iV:((h.push {cls:=.type "dict",data:=.dict #[]}).update x λo=>{cls:=o.cls,dict:=some h.objs.size,data:=o.data,slots:=o.slots}).Ns h.objs.size (λl=>none):=
    (l8 _ (#[]) _ hgd rfl (λe he=>absurd he (by simp)) (λl=>rfl))
   show aeO _ _ (storeInDict h.objs.size (.str name tk) name v) _ _ _
   unfold storeInDict newKeyGuard
   refine aek (aey (aek (wpAny_nsSet1 (Heap.Ns1.of_empty iV) λh' j k=>?_)))
   refine cj (j.count (Within.cons name v Within.nil)) λoD esD epD B D F=>?_
   refine aek (wpAny_lookBehind B (by rw[D];exact pastItsLine_dict (aeE F (by rw[ajz,List.length_nil,sizeLine_eq];omega))) ?_)
   refine aey ?_
   have V:h'.get? x=some {cls:=o.cls,dict:=some h.objs.size,data:=o.data,slots:=o.slots}:=by
    refine (k.2 x z).trans (agd _ T ?_)
    have C4:=(Heap.get?_some_iff.mp R).2
    obtain ⟨oc,od,odt,km⟩:=o
    induction odt using aia<;>first|rfl|exact C4
   refine H h' _ (nU ({cls:=o.cls,dict:=some h.objs.size,data:=o.data,slots:=o.slots}) V m s (.inr (dJ h.objs.size rfl z.symm ?_))) (λb ob hbx l p=>?_)
    (λc r=>by obtain rfl:o=c:=aej (R.symm.trans r);exact (EL _ V rfl rfl rfl (λa e=>by rw[S]at e;exact aT e) (λl=>(ay _ rfl (aeD _)))))
   ·refine sa j ?_;clear j;intro o' es ep e1 e2 e3 eu e4
    exact (zm o' es ep e1 e2 e3 eu (λy=>by rw[e4 y];by_cases hy:y=name<;>simp[hy,hmA]))
   ·exact (k.2 b (aeN (aeS p))).trans ((aiU _ _ _ _ hbx).trans (aeq _ p))
  cases hdt:o.data<;>first|exact absurd hdt (s _)|exact fin
 ·rw[n]
  dsimp only
  refine aey ?_
  show aeO _ _ (storeInDict a (.str name tk) name v) _ _ _
  unfold storeInDict newKeyGuard
  refine aek (aey (aek (wpAny_nsSet1 pq λh' j k=>?_)))
  refine cj (j.count (Within.cons name v L)) ?_;clear L;intro oD esD epD B D F
  refine aek (wpAny_lookBehind B (by rw[D];exact pastItsLine_dict (aeE F (by rw[ajz];omega))) ?_)
  refine aey ?_
  refine H h' _ (nU o ((k.2 x u.symm).trans R) m s (.inr (dJ a n u j))) (λb ob l C3 p=>?_)
   (λc r=>(EL c ((k.2 x u.symm).trans r) rfl rfl rfl (λl e=>e) (λqb=>by
    obtain rfl:o=c:=aej (R.symm.trans r)
    exact absurd n (qb a))))
  exact (k.2 b (C3 o a R n)).trans p
end
open PySem.Builtin PySem.Builtin.ObjectAttr
open Sem (wp)
theorem Qw (self:ael):refuseLoop self "__setattr__" [.type "Exception",.type "BaseException",.type "object"]=pure ():=by
 unfold refuseLoop;kernel_rfl
noncomputable def so:List ael->Bool
 |.ref a::r=>so r
 |l=>l ==[.type "Exception",.type "BaseException",.type "object"]
theorem PZ (self:ael):so l=true->refuseLoop self "__setattr__" l=pure ():=by
 induction l with
 |nil=>intro e;exact aX e
 |cons v r a=> intro e;induction v using afo with
  |ref c=>rw[refuseLoop_ref];exact a (by unfold so at e;exact e)
  |type n=>unfold so at e;rw[beq_iff_eq.mp e];exact Qw self
  |_=>exact aX e
inductive abU (K:afV)(C:aez):Prop
 |mk (nm q N bs bm sn sub ab col dd k0 k1 k2 k3 k5)(h:K.lookup C=some (ahb nm q C N bs bm true sn sub ab col dd k0 k1 k2 k3 k5 i6))(B:qP C bm)(ob:(afr C::bm).contains (.type "object")=true)(ht:so bm=true)
structure m4 (K:afV)(C fI:aez):Prop where
 obj:abU K C
 init:ags K (.ref C) "__init__" =some (some (.ref fI))
 set:ags K (.ref C) "__setattr__" =some (some (.builtin "object.__setattr__"))
 msg:ags K (.ref C) "message" =some none
 abV:ags K (.ref C) "spot" =some none
 fn:isFn K (.ref fI)=true
section
variable{prog:ae9}{w:afq}{A:ae6}{E:ael->aep->Prop}{s:aep}{K:afV}{C fI x:aez}{mA:Str->Option ael}{name:Str}{v:ael}
theorem Ef {Q:Unit->aep->Prop}(X:K.In s.heap) (H:m4 K C fI) (l:ags K (.ref C) name=some none) (I:s.heap.Inst x C mA)
  (m:∀ h' h,h'.Inst x C (λy=>if y=name then some v else mA y)->
   (∀ b o,b≠x->(∀ c a,s.heap.get? x=some c->c.dict=some a->b≠a)->s.heap.get? b=some o->h'.get? b=some o)->
   (∀ c,s.heap.get? x=some c->∃ d,h'.get? x=some d/\d.cls=c.cls/\d.data=c.data/\d.slots=c.slots/\(∀ a,c.dict=some a->d.dict=some a)/\((∀ a,c.dict=some a->False)->∃ a,d.dict=some a/\s.heap.objs.size<=a))->Q () {s with heap:=h',toks:=h}) (n:Within mA ns:=by within_ways) (p:ns.length<=sizeLine:=by size_fits):
  aeO (aeR prog w) A (setAttr (.ref x) name v) Q E s:=by
 obtain⟨T,q,N,V,W,sn,sub,Z,col,dd,k0,k1,k2,k3,k5,r,qa,t,u⟩:=H.obj
 have g:=PySem.F.store_object
 have j:=X _ _ r
 refine j1 (id I) λo z B hnc hd=>?_
 have k:Looks (aeR prog w) s.heap (typeOf (.ref x)) (.ref C):=by
  have:=(Looks.ld (M:=aeR prog w) (part:=none) z).andThen (f:=λo=>pure o.cls) (b:=o.cls) .now
  rw [B] at this
  exact this
 have D:Looks (aeR prog w) s.heap (isInstance (.ref x) (.type "object")) true:=k.andThen (by
  intro A' Q' E' F G L
  obtain⟨hh,gg,dd',tt,oo⟩:=F
  refine agK (G _ _ j) ?_
  rw [t]
  exact L)
 unfold setAttr callSpecial? specialOf
 refine aek (wpAny_mkText (aek (aek (aek (k _ _ _ _ (λi i e=>e) (ajx X H.set _ _ _ _ (λi i e=>e) (afX ?_)))))))
 rw [g.slot.bind]
 refine aek (aey (aek (agR ?_)))
 refine codeAny_call_builtin g.slot.plain g.entry (@check_slot (aeR prog w) _ _ {s with toks:=s.toks+1} "object.__setattr__" "object" "__setattr__" (.ref x) [.str name s.toks,v] [] _ g.kind g.split D (g.args (.ref x) (.str name s.toks) v) ?_)
 obtain⟨hp,qb,qc,tk,os⟩:=s
 refine Ts (ns:=ns) j (ajx X l) (by rw [refuseLoop_ref];exact PZ _ u) I (λh' h P R S=>?_) n p
 exact aey (aey (m h' h P R S))
end
section
variable{W:Wd}{c:Cx W}{A:ae6}{d:Nat}
noncomputable def vI (p:Nat->Pos):List Stmt:=[
 .Expr (.Call (.Attribute (.Name "Exception" (p 0)) "__init__" (p 1)) [.Name "self" (p 2),.Name "message" (p 3)] [] (p 4)) (p 5),
 .Assign [.Attribute (.Name "self" (p 6)) "message" (p 7)] (.Name "message" (p 8)) (p 9),
 .Assign [.Attribute (.Name "self" (p 10)) "spot" (p 11)] (.Name "spot" (p 12)) (p 13)]
theorem nK{m:Str->Option ael}{Q:ael->aep->Prop}{E:ael->aep->Prop}(a:c.env.scope.kind=.function) (b:c.env.kindOf x=some .local) (e:s.heap.Ns c.env.locals m) (f:m x=some v) (g:(x ==("__debug__" :Str))=false) (h:Q v s):WP W A (eval (.Name x pos) c.env) Q E s:=
 ajo (aiA a b e f h) g
theorem Qx{K:afV}:findCls K (.type "Exception") (.type "type") "__init__" =some (.val (.builtin "Exception.__init__")):=by kernel_rfl
theorem Vl:Manifest.isStub "Exception" =false:=by decide +kernel
noncomputable def Fg(e C:aez)(h h':afm):Prop:=(∃ c d A,h'.get? e=some c/\c.cls=.ref C/\c.data=.fields d/\d[0]?=some A/\d[1]?=some .none)/\∀ b o,b≠e->h.get? b=some o->h'.get? b=some o
theorem Rp {p:Nat->Pos}{m:Str->Option ael}{mg mb:Str->Option ael}{E:ael->aep->Prop}{Q:Flow->aep->Prop} (f:c.env.scope.kind=.function) (hg:c.env.globals=afa) (a:c.env.builtins=agP) (u:c.env.kindOf "self" =some .local) (B:c.env.kindOf "message" =some .local) (h3:c.env.kindOf "spot" =some .local) (h4:c.env.kindOf "Exception" =some .globalImplicit) (xJ:((p 1).endLine ==(p 4).line)=true) (F:Fr i c.env.locals s.heap m) (X:W.K.In i) (T:TopRead P loose mg mb i) (C5:nsIn W.K afa "Exception" =some none) (H:m4 W.K C fI) (v:m "self" =some (.ref e)) (D:m "message" =some k) (m3:m "spot" =some sv) (G:s.heap.get? e=some {cls:=.ref C,data:=.fields #[.ref t,.none,.none,.none,.bool false,.none]}) (I:e≠c.env.locals) (L:i.get? e=none) (hQ:∀ h' tk,Fg e C s.heap h'->Q .next {s with heap:=h',toks:=tk}):WP W A (aho (vI p) c.env) Q E s:=by
 have X':=X.keeps F.keep;obtain ⟨nm,q,qb,bs,bm,sn,sub,ab,col,dd,k0,k1,k2,k3,k5,hC,qa,L0,ht⟩:=H.obj;unfold vI;refine agx (aiY ?_ (by unfold interactive;rw [f];rfl) (jV rfl _ _ _))
 refine vO rfl rfl (by show 2<30;decide) xJ ?_
 refine ahI f h4 (loadGlobal_builtin (by rw [hg];exact T.g.keeps F.keep) (mg_none_of X T.g C5) (by rw [a];exact T.b.keeps F.keep) ((T.builtins "Exception" (by decide)).trans (show ah4 "Exception" =some (.type "Exception") by decide +kernel)) ?_) (by decide)
 intro pl;refine method_type (T:= "Exception") F X (by rfl) Vl Qx rfl ?_
 refine eM (P:=λg=>True) rfl (λd g=>(ay _ (.inr (.inl rfl)) (af4 rfl))) ?_
 refine agq (nK f u F.ns v (by decide) ?_) (fz rfl)
 refine agq (nK f B F.ns D (by decide) ?_) (fz rfl)
 refine ahf ⟨trivial,?_⟩;obtain ⟨d,qc,dr,tk,os⟩:=s;refine Vk (rest:=[k]) qa (X' _ _ hC) G rfl rfl (t0:=t) rfl ?_;have l:((d.push {cls:=.type "tuple",data:=.seq [k].toArray}).update e (ahQ (·.setIfInBounds 0 (.ref d.objs.size)))).get? e=some {cls:=.ref C,data:=.fields #[.ref d.objs.size,.none,.none,.none,.bool false,.none]}:= agd _ (aeq _ G) rfl;have n:∀ b o,b≠e->d.get? b=some o->((d.push {cls:=.type "tuple",data:=.seq [k].toArray}).update e (ahQ (·.setIfInBounds 0 (.ref d.objs.size)))).get? b=some o:=λb o a q=> (aiU _ _ _ _ a).trans (aeq _ q)
 generalize (d.push {cls:=.type "tuple",data:=.seq [k].toArray}).update e (ahQ (·.setIfInBounds 0 (.ref d.objs.size)))=w at l n ⊢;have r:Fr i c.env.locals w m:=Eng.Fr.turned F (S:=[e]) (λb a=>by rw [aev.mp a];exact ⟨I,L⟩) λb o a q=>n b o (λz=>a (by rw [z];exact .head _)) q
 have abW:=X.keeps r.keep;refine agx (ahk (nK f B r.ns D (by decide) (nK f u r.ns v (by decide) ?_)) (jV rfl _ _ _))
 have abX:w.Inst e C (λg=>none):=(nU _ l rfl (λc q=>by contradiction) (.inl ⟨rfl,λg=>rfl⟩))
 refine Ef abW H H.msg abX (ns:=[]) (λM Yf abY k₂ N=>?_) Within.nil
 refine EK (N _ l) ?_;clear N;intro ad6 R c₂ abZ g g V;refine Y (V (λZ q=>by exact aT q)) ?_;clear V;intro Z WI WJ
 have HH:∀ b o,b≠e->w.get? b=some o->M.get? b=some o:=λb o a q=>k₂ b o a (λx Z h j=>by rw [l]at h;have bj:=aej h;clear h;subst x;exact aT j) q
 have y:Fr i c.env.locals M m:=Eng.Fr.turned r (S:=[e]) (λb a=>by rw [aev.mp a];exact ⟨I,L⟩) λb o a q=>HH b o (λz=>a (by rw [z];exact .head _)) q
 have ab0:=X.keeps y.keep;refine agx (ahk (nK f h3 y.ns m3 (by decide) (nK f u y.ns v (by decide) ?_)) (jV rfl _ _ _))
 refine Ef ab0 H H.abV abY (ns:=["message"]) (λab1 tn aeb ab2 L7=>?_) (Within.cons _ _ Within.nil)
 refine EK (L7 _ R) ?_;clear L7;intro YA YB ab3 ab4 g g g;refine ahq (hQ ab1 tn ⟨(zm YA _ _ YB (ab3.trans c₂) (ab4.trans abZ) rfl rfl),λb o a q=>?_⟩)
 refine ab2 b o a (λx dx' h j=>?_) (HH b o a (n b o a q))
 rw [R]at h;have bj:=aej h;clear h;subst x;rw [WI]at j;have bj:=aej j;clear j;subst dx';exact λz=>afG _ (aet (aeS (n b o a q)) (z▸WJ))
section
variable{M:Model}{E:ael->aep->Prop}{env:Env}{nm q:Str}{C N:aez}{bs bm:List ael}{hdct:Bool}{sn:List Str}{sub:List ael}{ab:Bool}{col:Option Bool}{dd:Option aez}{k0 k1 k2 k3 k5:Option ael}{newId:String}
theorem Tt{Q:Flow->aep->Prop}(j:(afr C::bm).contains (.type "BaseException")=true) (k:A.handled=none) (h:aeO M A x (λv a=>∃ e b vs,v=.ref e/\a.heap.get? C=some (ahb nm q C N bs bm hdct sn sub ab col dd k0 k1 k2 k3 k5 newId)/\ a.heap.get? e=some b/\b.cls=.ref C/\b.data=.fields vs/\vs[1]?=some .none/\E (.ref e) a) E s): aeO M A (raiseStmt env (some x) none) Q E s:=by
 unfold raiseStmt
 refine aek (afN h (λv a c=>?_) λl l x=>x)
 refine PF c ?_;clear c;intro e b vs m W n f i o p;subst m
 obtain⟨r,g,d,t,os⟩:=a
 obtain⟨u,w,y,z⟩:=b
 dsimp only at f i
 subst f i
 repeat (first|with_reducible refine agb n ?_|with_reducible refine agb W ?_|(with_reducible refine agK W ?_;rw[j])|wp_step)
 rw[o]
 refine aey ?_
 rw[if_neg (by decide)]
 exact aey (wpAny_raiseNew_none k p)
end
theorem FunFrames.keeps{base h h':afm}:∀ {l:List Env},h.FunFrames base l->(∀ b o,h.get? b=some o->h'.get? b=some o)->h'.FunFrames base l
 |[],a,n=>trivial
 |env::a,⟨e,⟨L,o,f,g,i,j⟩,m⟩,k=>(bH e (p8 L o f g (k _ _ i) j) (FunFrames.keeps m k))
structure sU (W:Wd)(fI:aez):Prop where
 fn:∃ od fd km p,W.K.lookup fI=some ⟨.type "function",od,.func fd,km⟩/\fd.body=.stmts (vI p)/\((p 1).endLine ==(p 4).line)=true/\codeIn W.K fd.code fd.qualname=true/\fd.globals=afa/\fd.builtins=agP/\ fd.scope.names=[(("self" :Str),NameKind.local),(("message" :Str),NameKind.local),(("spot" :Str),NameKind.local),(("Exception" :Str),ae5)]/\fd.scope.kind=.function/\fd.scope.isCoroutine=false/\fd.scope.isGenerator=false/\ ∀ e m sp (s:aep),W.K.In s.heap->BindsTo s fd ⟨[e,m,sp],[]⟩ [(("self" :Str),e),(("message" :Str),m),(("spot" :Str),sp)]
 ex:nsIn W.K afa "Exception" =some none
theorem Vm (y:ak c) (hd:A.depth+2<=990) (H:m4 W.K C B) (D:sU W B) (R:SR c σ s α N) {Q:ael->aep->Prop}{E:ael->aep->Prop}
  (hQ:∀ e h' tk,s.heap.get? e=none->(∃ m vs a0,h'.get? e=some m/\m.cls=.ref C/\m.data=.fields vs/\vs[0]?=some a0/\vs[1]?=some .none)->(∀ b o,s.heap.get? b=some o->h'.get? b=some o)->Q (.ref e) {s with heap:=h',toks:=tk}):
  WP W A (afl (.ref C) [g,h]) Q E s:=by
 obtain⟨nm,q,Nn,bs,bm,sn,sub,ab,col,dd,k0,k1,k2,k3,k5,hC,qa,L0,ht⟩:=H.obj
 refine O6 D.fn λod n km G I ox xJ tE hgl Nv L M nE BR mw=>?_
 refine Y R.fr λqd F d=>?_
 refine gH y.top λqe loose mg mb qb=>?_
 have T':=qb.toTopRead.keeps F.keep
 have lim:=y.lim.keeps F.keep
 have X:=R.aZ
 obtain⟨r,qc,dr,tk,os⟩:=s
 refine Vj qa (X _ _ hC) (λt k=>ajx (X.keeps k) H.init) (X _ _ I) rfl λh' e d f5=>?_
 refine cK d.there λqf P htn l=>?_
 have u:=X.keeps d.keeps
 have w1:(af3 "type.__call__" ⟨.ref C::[g,h],[]⟩).weight<=4:=Ep _
 have ny:(A.under (.builtin "type.__call__" ⟨.ref C::[g,h],[]⟩)).depth<recursionLimit:=by
  show A.depth+(af3 "type.__call__" ⟨.ref C::[g,h],[]⟩).weight<1000
  omega
 have a:∀ x k,(x,k)∈[(("self" :Str),NameKind.local),("message",.local),("spot",.local),("Exception",.globalImplicit)]->n.scope.names.lookup x=some k:=by
  intro x k i
  rw [L]
  simp only [aeA,ahj,or_false,ajj]at i
  rcases i with⟨rfl,rfl⟩|⟨rfl,rfl⟩|⟨rfl,rfl⟩|⟨rfl,rfl⟩<;>decide
 refine agR (codeAny_call_def (fd:=n) (body:=vI G) (binds:=[(("self" :Str),afr e),(("message" :Str),g),(("spot" :Str),h)]) ny (u _ _ I) rfl (lim.keeps d.keeps) (codeRec_of u tE) ox (mw _ _ _ _ u) ?_ ?_ (λt pq v=>?_) nE BR M)
 ·rw [L];decide
 ·intro x i
  simp only [aeA,ahj,or_false]at i
  rcases i with rfl|rfl|rfl
  ·exact a _ _ (.head _)
  ·exact a _ _ (.tail _ (.head _))
  ·exact a _ _ (.tail _ (.tail _ (.head _)))
 have S:e<h'.objs.size:=aeS P
 let T:Cx W:={c with env:=callEnv n h'.objs.size B}
 have BM:Fr r T.env.locals t (λx=>[(("self" :Str),afr e),("message",g),("spot",h)].reverse.lookup x):=⟨pq,λb o q=>v _ _ (d.keeps _ _ q),by
  show r.objs.size<=h'.objs.size
  exact aeE f5 (agV S)⟩
 refine afN (Rp (c:=T) (p:=G) (E:=λl l=>False) (Q:=λV Z=>V=.next/\∃ f j,Z=⟨f,qc,dr,j,os⟩/\Fg e C t f) M hgl Nv (a _ _ (.head _)) (a _ _ (.tail _ (.head _))) (a _ _ (.tail _ (.tail _ (.head _)))) (a _ _ (.tail _ (.tail _ (.tail _ (.head _))))) xJ BM X T' D.ex H (by rfl) (by rfl) (by rfl) (v _ _ P) (aeN S) d.new λf j w=>(Ak rfl f j rfl w)) (λV Z hp=>?_) λl l z=>z.elim
 refine kN hp ?_;clear hp;intro bj f j pv w keep;subst bj;subst pv
 refine⟨rfl,hQ e f j d.new w λb o q=>keep b o (λz=>?_) (v _ _ (d.keeps _ _ q))⟩
 have q':r.get? b=some o:=q
 rw [z,d.new]at q'
 exact aT q'
theorem SR.led (R:SR c σ s α N):AM c α N:=by
 have d:=R.nodup;rw[aeX,ae7]at d;exact (bH d.1 (λp A=>⟨R.hi p (aeo _ A),λW=>d.2.2 _ (aeF A) _ W rfl⟩) R.all)
theorem Qy (a:ak c) (R:SR c σ s α N) (p:s.heap.get? e=none) (f:∀ b o,s.heap.get? b=some o->h'.get? b=some o)
  (r:∃ g vs a0,h'.get? e=some g/\g.cls=.ref C/\g.data=.fields vs/\vs[0]?=some a0/\vs[1]?=some .none):XR c C (.ref e) σ {s with heap:=h',toks:=tk} α N:=by
 refine Y R.fr λm F d=>?_
 have h:=pushX a.below F a.frame a.kZ;have t:∀ A∈(c.bF::c.outer),∀ b,A.frame=some b->b∈ph c:=λA he b i=>aic.mpr (ay A he i)
 have u:∀ {b o},c.base.get? b=some o->b∉ph c:=λq d=>by
  rw[(h.frames.mem d).1]at q;exact aT q
 refine⟨⟨R.gens,R.led⟩,R.os,e,hideAll s.heap (ph c),s.heap,m,rfl,λb o q=>ai6 _ (h.stays b o q) (u q),F,d,λb o q i=>ai6 _ q i,λq j=>?_,agI f,?_⟩
 ·refine bU (R.news q j) ?_;clear R j;intro v k l;refine (bH (ai6 _ v λd=>?_) l k)
  refine Y (aic.mp d) ?_;clear d;intro A he W;rcases aeA.mp he with rfl|he
  ·rw[a.frame]at W;exact k (aej W).symm
  ·refine Y ((a.below.frames.mem (aic.mpr (ay A he W))).2) ?_;clear a he W;intro o n w;rw[l]at n;exact aT n
 ·refine (j6 (λb o q=>f _ _ (aiM _ q)) ?_ (Eng.FunFrames.keeps (funFrames_hide h.frames t) f) (.inl r))
  induction q:(hideAll s.heap (ph c)).get? e using aeB with
  |none=>rfl
  |some o=>have:=aiM _ q;rw[p]at this;exact aT this
noncomputable def cz(C:aez)(args:ec):Sc:=λd c c=>args d λl c=>lQ .no l λc c=>.exc C
theorem WK{α:Type}{l:List α}(h:l.length=2):∃ a b,l=[a,b]:=by
 induction l using aeC with
 |nil=>exact absurd h (ajG 1).symm
 |cons a l=> induction l using aeC with
  |nil=>exact absurd (af0 h) (ajG 0).symm
  |cons b l=>rw[agn.mp (af0 (af0 h))];exact⟨a,b,rfl⟩
theorem Rq (e:ak c) (i:aP c d A){C j:aez}(H:m4 W.K C j) (B:sU W j) (D:keepIn W.K (.ref C)=true){x:Str}{n:Nat}{F k pos:Pos}{args:List aeM}{l:ec}(G:args.any aeH=false)
  (I:c.scope.names[n]?=some (x,.globalImplicit)) (a:cJ x=true) (L:W.G.name x=some (.glob C)) (M:gL c A args l):bQ c A (.Raise (some (.Call (.Name x F) args [] k)) none pos) (cz C l):=by
 intro Q kn kr y h m s S T E R o qd hn hr;rw [arm_exec_Raise];have V:=H;obtain⟨X,Z,Nn,bs,bm,sn,sub,ab,col,dd,k0,k1,k2,k3,k5,hC,qa,L0,ht⟩:=V.obj;refine aek (ahO ?_);refine Tt (nm:=X) (q:=Z) (C:=C) (N:=Nn) (bs:=bs) (bm:=bm) (hdct:=true) (sn:=sn) (sub:=sub) (ab:=ab) (col:=col) (dd:=dd) (k0:=k0) (k1:=k1) (k2:=k2) (k3:=k3) (k5:=k5) (newId:=i6) qa.hasB i.handled ?_;refine aek (afN ?_ (λqe dW tV=>aek (ahO (aey tV))) λu_ u_ x=>x)
 refine Call_ (zY e I a L R λfv uU=>?_)
 cases uU
 refine eM (P:=λa=>W.K.In a) G (λa qb=>keeps_K D a qb) ?_
 refine M Q _ y h m s S T E R o k _ λqf dk f dn cL bZ h b hY ie CB=>⟨b.aZ,?_⟩
 refine be (mn h m) ?_;clear h;intro x1 x2 g h;subst g
 ·refine eZ (WK (ie.len CB)) ?_;intro v1 v2 g;subst g;refine Vm e (by have:=i.depth;omega) H B b λqc h' tk p1 p r=>?_
  refine sa p ?_;clear p;intro t f a0 u v w e4 z;exact (PK qc t f rfl (r _ _ (b.aZ _ _ hC)) u v w z (o C _ dk _ cL bZ h.symm hY.kp (Qy e b p1 r (zm t f a0 u v w e4 z))))
theorem Vn{m:Str->Option ael}{M:Led}(F:Fr a L G m) (N:∀ q∈M,a.get? q.1=none/\q.1≠L):Fr a L (hideAll G (M.map (·.1))) m:=by
 refine gC F.ns λd A W f g h i=>?_
 refine⟨(l8 d A W (ai6 _ f λq=>?_) g h i),λb o e=>ai6 _ (F.keep b o e) λq=>?_,F.above⟩
 ·refine Y (aeP.mp q) λp c e=>?_
  exact (N p c).2 e
 ·refine Y (aeP.mp q) ?_;clear q;intro p c j;subst j;rw[(N p c).1]at e;exact aT e
noncomputable def Cx.at(c:Cx W)(g:afm):Cx W:={c with h₀:=g}
theorem ak.at{g:afm}(h:ak c)(K:Below c.A₀ c.base c.outer g):ak (c.at g):=⟨h.g,h.k7.keeps K.stays,h.mU.keeps K.stays,K,h.kind,h.kZ,h.frame,h.iE,h.qC,h.locs,(by refine gH h.ls λp l d A T=>?_;exact (nV p l d A (T.keeps K.stays))),h.cW,h.k7,h.ls,h.mU,h.uz,h.cin,h.nq⟩
section
variable{qual:Str}{scope:afC}{f:aez}{dD:ael}{tt:aeM}{n:Str}{lx:afD}{qQ:List afD}{pos:Pos}{Q:Flow->aep->Prop}{E:ael->aep->Prop}
theorem Rr (g:ak c) (xK:c.bF=ag2 qual scope c.L f dD) (C4:A.frames=some (c.bF::c.outer)) (hk:scope.kind=.function) (eU:(ag2 qual scope c.L f dD).kindOf n=some .local)
  {D h}(x:XR c C F bu l D h) (T:∀ p G H I,KtsTest W.prog W.w W.K p G H I qual scope c.L f dD (.ref C) tt true)
  (k:∀ v h' tk e i m,KtsTurn (c.outer.filterMap (·.frame)) c.h₀ v->i.cls=.ref C->Fr v c.L h' (λy=>if y=n then some (.ref e) else m y)->NR c bu.loc D h m->agM v c.L h' ((e,i)::(h++c.ax))->(∀ p∈h++c.ax,p.1≠e)->c.base.get? e=none->ak (c.at v)->
   l.gens=#[]->l.os=W.os->AM c D h->aeO (aeR W.prog W.w) (A.mark (some (.ref e))) (aho (lx::qQ) c.bF)
    (λfl rg=>aeO (aeR W.prog W.w) A (do bindName c.bF n .none;unbindBehindTheSuite c.bF n pos) (λr ke=>Q fl ke) E rg)
    (AsSuiteRaised (aeR W.prog W.w) (A.mark (some (.ref e))) c.bF n pos (aix (aeR W.prog W.w) (A.mark (some (.ref e))) c.bF (agS (aeR W.prog W.w) A c.bF E)))
    {l with heap:=h',toks:=tk}):
  WP W A (noteFrame F c.bF) (λr eb=>WP W A (setFlight F none) (λr L=>WP W A (handleBy F c.bF [.ExceptHandler (some tt) (some n) (lx::qQ) pos]) Q E L) E eb) E l:=by
 refine E1 g C4 x λMa a B' s M t x=>?_
 subst M
 obtain⟨⟨hg,led⟩,nv,a',B,qa,m,M,h1,h2,h3,h4,d,h6,f1,w,f3,f4⟩:=x
 cases M
 have u:=Vn h2 λq j=>⟨(d q j).2.1,(d q j).2.2⟩
 have N:∀ b o,(hideAll qa ((h++c.ax).map (·.1))).get? b=some o->b∉(ag2 qual scope c.L f dD::c.outer).filterMap (·.frame)->B.get? b=some o:=λb o q qb=>h4 b o (aiM _ q) (by unfold ph;rw [xK];exact qb)
 have go:∀ {s fl},Heap.TracedAtW Ma B a (.ref C) s fl->WP W A (setFlight (.ref a) none) (λr L=>WP W A (handleBy (.ref a) c.bF [.ExceptHandler (some tt) (some n) (lx::qQ) pos]) Q E L) E {l with heap:=Ma}:=by
  intro s fl t
  refine wpAny_setFlight_noneW f1 f3 t λP R k2 k3 k4=>?_
  have S:Heap.FlyingW B (c.bF::c.outer) a (.ref C) s P:=(j6 R w k2 k3)
  have GO:(hideAll qa ((h++c.ax).map (·.1))).UpToSlots P:=(agI λb o q=>aiM _ q).trans (h6.trans λb o hb hn=>⟨o.slots,k4 b o hb hn⟩)
  refine cK (kts_ground g.below u N R GO) ?_;clear R;intro xF aec ua Mb
  refine gH g.ls λp G H I qc=>?_
  have LT:Looks (aeR W.prog W.w) P (typeOf (.ref a)) (.ref C):=by
   refine Y S.there λob hob g=>?_
   rw [←g]
   exact (Looks.ld hob).andThen .now
  rw [xK]at k S ⊢
  refine wpAny_handleBy_cons (codeAny_handlers_test (T p G H I _ _ _ _ xF a m ua (g.k7.keeps Mb.stays) (qc.toTopRead.keeps Mb.stays) LT λaed kp=>?_)) (by intro q;cases q)
  have V:=GO.trans (agI kp)
  refine codeAny_handlers_suite_as ?_
  refine lands_againW (flying_keeps S kp) λab5 X Z=>?_
  refine cK (kts_ground g.below u N X.1 (V.trans Z)) λtU BS xA ab6=>?_
  refine eJ X.first λi ws yE ab7 Mc aee=>?_
  have ne:tU.get? a=none:=BS.none_ _ (kts_fresh u N w λo ho hm=>by
   refine AL (g.below.frames.mem hm) ?_;clear hm;intro r o' jE z
   rw [ho]at jE
   have bj:=aej jE;clear jE;subst o'
   refine aL ((V.trans Z) _ _ (u.keep _ _ ho) z) ?_;clear V Z u ho;intro sl hs
   rw [yE]at hs
   have bj:=aej hs;clear hs;subst i
   exact z _ Mc)
  have Nl:agM tU c.L ab5 (h++c.ax):=λq j=>(bH (X.1 _ _ (d q j).1) ((d q j).2.2) (BS.none_ _ (d q j).2.1))
  refine stN xA (News.more xA Nl yE (λes n q=>by rw [Mc]at q;contradiction) ne) (λab8 ab9 aca=>?_) hk eU
  exact k tU ab8 _ a i m BS ab7 ab9 h3 aca (λp hp e=>by have:=(d p hp).1;rw [e,w]at this;exact aT this) (fresh_of_stays h1 w) (g.at ab6) hg nv led
 rcases f4 with⟨i,vs,a1,e1,e2,e3,e4,e5⟩|⟨s,fl,t',_⟩
 ·refine PH t ?_;clear t;intro oe' CH T' oT ts he tQ z yF r
  rw [he]at e1;have bj:=aej e1;clear e1;subst oe'
  rw [z]at e3;cases e3
  rw [yF]at e5;cases e5
 ·exact go t'
end
set_option backward.match.sparseCases true
theorem WL (j:ak c) (T:c.outer=[]) (n:c.bF=ag2 cn cs c.L ca ccd) (z:A.frames=some [c.bF]){m:Str->Option ael}(F:Fr c.h₀ c.L s.heap m) (N:agM c.h₀ c.L s.heap V)
  {R:aip->aep->Prop}
  (Z:W.K.lookup f=some ⟨oc,od,.func (fnOf name a params body scope B C D E G i H),km⟩) (lS:codeIn W.K i a=true) (iG:A.depth<recursionLimit)
  (mw:BindsTo s (fnOf name a params body scope B C D E G i H) args binds) (kd:∀ y∈binds,scope.names.lookup y.1=some .local)
  (h:∀ g L' h₁,Fr c.h₀ c.L g m->Fr g L' h₁ (λy=>binds.reverse.lookup y)->agM g L' h₁ V->Below A c.base [c.bF] g->c.h₀.StaysIn g->
   WP W (A.deeper (ag2 a scope L' f i)) (aho body (ag2 a scope L' f i))
    (λfl k=>LeaveS0 [c.L] c.h₀ c.L m g R (match fl with|.ret v=>v|_=>.none) k)
    (λe k=>WP W (A.deeper (ag2 a scope L' f i)) (leaving (ag2 a scope L' f i) e) (λI r=>R (.error e) r) (λe' r=>R (.error e') r) k)
    {s with heap:=h₁,toks:=s.toks+binds.length})
  (nE:scope.isCoroutine=false) (BR:scope.isGenerator=false) (hk:scope.kind=.function)
  (A3:∀ x∈scope.names,x.2≠.cell):agk (aeR W.prog W.w) A (.call (.ref f) args) R s:=by
 have t:=j.below
 rw [T] at t
 have X:=j.aZ.keeps F.keep
 have L:cs.kind=.function:=by have:=j.kZ;rw [n] at this;exact this
 refine codeAny_call_def (fd:=fnOf name a params body scope B C D E G i H) (body:=body) (binds:=binds) iG (X _ _ Z) rfl (j.lim.keeps F.keep) (codeRec_of X lS) rfl mw A3 kd (λh₁ pq M=>?_) nE BR hk
 refine P5 (kts_enter t F N (by rw [←n];exact z) L) ?_;clear t z L;intro oL es ep u hLd hN hNs st acb
 refine afN (h _ s.heap.objs.size h₁ ⟨hN _ u,st,F.above⟩ ⟨pq,λb o e=>M b o (aiM _ e),agh (hideAll_size _ _)⟩
  (λp d=>(bH (M _ _ (N p d).1) (aeN (aeS (N p d).1)) (hideAll_none _ (aeF d)))) (by rw [n];exact acb) st) (λfl k P=>?_) λI I y=>y
 refine pQ P ?_;clear P;intro g' L' m' ad7 l Q w qa
 have YC:c.h₀.get? c.L=none:=kts_self F
 refine aL (l.up u) ?_;clear u;intro sl S
 refine qa ⟨hNs sl _ (Q.keep _ _ S),λb o e=>Q.keep b o (l.other b o (st b o e) (λq=>by
  rw [aev.mp q,YC] at e
  exact aT e)),F.above⟩ λp d=>(bH ((w p d).1) (λq=>?_) ?_)
 ·have:=(w p d).2.2;rw [q,S] at this;exact nk this
 ·induction q:c.h₀.get? p.1 using aeB with
  |none=>rfl
  |some o=>
   refine aL (l.up (st _ _ q)) ?_;clear l st q;intro sl' uR
   have:=(w p d).2.2
   rw [uR] at this
   exact nk this
noncomputable def nx(y:Rs):Rs:=match y with
 |.exc c=>.no
 |y=>y
theorem YD(h:nx y=z)(a:z≠.no):y=z/\∀ C,z≠.exc C:=by
 induction y using Rs.casesOn with
 |exc C=>exact absurd h.symm a
 |no=>exact absurd h.symm a
 |ok v=>exact⟨h,λC e=>by rw[e]at h;cases h⟩
noncomputable def kh (Cs:List Nat) (hsc:Sc) (call:Call) (col:Nat) (args:List O):Ev:=λc k=>gf .no args λa r=>iS .no r λb=>qu .no b λD=>j8 .no c.mark
 (Rs.casesOn (motive:=λd=>Rs) (call (.glob col) [a] ⟨[(nat_lit 0,a),(nat_lit 1,.glob D)],[],c.st,c.n,c.lo,[]⟩ (λd d=>.no)) (λd=>.no) (λC=>aN .no (cM C Cs) (nx (hsc ⟨[(nat_lit 2,.fk C),(nat_lit 1,.glob D)],[],lK,c.n,nat_lit 0,[]⟩ (λd=>.no) (λv A=>k v (back c A))))) .no)
theorem Vo{Cs hsc call col args σ k y}(h:kh Cs hsc call col args σ k=y) (e:y≠.no):∃ a D C,args=[a,.glob D]/\σ.mark=[]/\call (.glob col) [a] ⟨[(0,a),(1,.glob D)],[],σ.st,σ.n,σ.lo,[]⟩ (λf f=>.no)=.exc C/\cM C Cs=true/\
  nx (hsc ⟨[(2,.fk C),(1,.glob D)],[],lK,σ.n,0,[]⟩ (λf=>.no) (λv i=>k v (back σ i)))=y:=by
 refine be (g9 h e) ?_;clear h;intro a r c W;subst c;refine Y (jc W e) ?_;clear W;intro b c g;subst c;refine Y (vu g e) ?_;clear g;intro D c j;subst c;refine ae (kL j e) λl d=>?_
 cases A:call (.glob col) [a] ⟨[(0,a),(1,.glob D)],[],σ.st,σ.n,σ.lo,[]⟩ (λf f=>.no) with
 |exc C=>
  rw [A] at d;refine ae (aS d e) λm n=>?_
  exact ⟨a,D,C,rfl,l,A,m,n⟩
 |_=>rw [A] at d;exact bO d e
set_option backward.match.sparseCases false
theorem NX{P:Prop}(a:i<j) (b:j<=0):P:=absurd (aet a b) (aiP _)
theorem Fh{l:List (Str×afv)}(a:(l.map (·.1)).Nodup){i j:Nat}{x y k b}(f:i<j)(g:l[i]?=some (x,k))(h:l[j]?=some (y,b)):x≠y:=λe=>aeN f (zI a g (e▸h))
theorem Tu {d':Nat} {call:Call} (qE:dw W d' call) (l:ak c) (acd:c.outer=[]) {NY:Str} {lcs:afC} {NZ:aez} {Me:ael} (xK:c.bF=ag2 NY lcs c.L NZ Me) (mV:∃ o,c.base.get? af1=some o) (wo:c.comp=none)
  (hf:A.frames=some [c.bF]) (hd:A.depth+1+16*d'<=890) (hu:A.units+3+80*d'<=9000) (hh:A.handled=none)
  {a:aez} {fd:aJ} {B:Str} {E:ael} (H:tO W a fd B E) {cn f g V:Str} {p0 p1 p2 p3 tp b:Pos} {tt:aeM} {lx:afD} {qQ rs:List afD}
  (ox:fd.body=.Try [.Expr (.Call (.Name cn p0) [.Name f p1] [] p2) p3] [.ExceptHandler (some tt) (some V) (lx::qQ) b] [] [] tp::rs) (ace:fd.params=[f,g])
  (n0:fd.scope.names[0]?=some (f,.local)) (z:fd.scope.names[1]?=some (g,.local)) (n2:fd.scope.names[2]?=some (V,.local)) {ic:Nat} (nc:fd.scope.names[ic]?=some (cn,.globalImplicit)) (kx:cJ cn=true) (C2:(f ==("__debug__" :Str))=false)
  {col:aez} (hcv:W.G.name cn=some (.glob col)) (hck:(W.G.fn col).isSome=true) (A3:∀ x∈fd.scope.names,x.2≠.cell)
  {hsc:Sc} (hs:∀ (c:Cx W) A,ak c->c.comp=none->c.scope=fd.scope->cA c A (lx::qQ) hsc) {Cs:List Nat}
  (T:∀ C,cM C Cs=true->∀ p loose F G L,KtsTest W.prog W.w W.K p loose F G B fd.scope L a E (.ref C) tt true)
  {σ:LS} {s:aep} {α N} (R:SR c σ s α N) {vals:List ael} {args:List O} (hv:ah W.kt α N vals args) (b:ae1 args=true) {k:Kv} {y:Rs}
  (h:kh Cs hsc call col args σ k=y) (t:y≠.no) {RR:aip->aep->Prop} (kQ:∀ v av X Z bG n,k av X=y->SR c X Z bG n->bh σ α N X bG n->VR W.kt bG n v av->RR (.ok (.ret v)) Z):
  agk (aeR W.prog W.w) A (.call (.ref a) ⟨vals,[]⟩) RR s:=by
 refine sa (Vo h t) ?_;clear h;intro w D C r HI acf hCs h;subst r
 refine ae (YD h t) λWM hyx=>?_
 obtain ⟨name,params,dV,kV,doc,pm,ct,oc,an,od,km,ho,mw⟩:=H.at_
 have yu:mr fd [w,.glob D]=some [(f,w),(g,.glob D)]:=by
  unfold mr
  rw [ace,if_pos ⟨aeD _,ae0 _ _⟩]
  show some ([f,g].zip ([w,.glob D]++List.drop (fd.di.length-0) fd.di))=_
  rw [Nat.sub_zero,ahJ]
  rfl
 refine Y (mw vals _ _ α N hv b yu) λbinds nA CF=>?_
 refine aH nA.ck ?_;clear nA;intro u b1 r gZ N0;subst r
 refine aH N0.ck ?_;clear N0;intro vb b2 r hvb uV;subst r
 obtain rfl:=uV.nil_inv
 obtain rfl:vb=.ref D:=hvb.inv
 refine Y R.fr λqb qc hm=>?_
 have ny:=Ab hd
 have l0:=eX H.cW n0
 have l1:=eX H.cW z
 have l2:=eX H.cW n2
 have acg:g≠f:=(Fh H.cW (Nat.zero_lt_one) n0 z).symm
 have ach:g≠V:=Fh H.cW (agy 1) z n2
 refine WL l acd xK hf qc R.news ho H.code ny (CF s R.aZ) (λy t=>?_) (λqd I h₁ FG F' n B' st=>?_) H.co H.gen H.kind A3
 ·rcases aeA.mp t with rfl|t
  ·exact l0
  ·exact aev.mp t▸l1
 let d:Cx W:=⟨A,c.base,[c.bF],qd,I,ag2 B fd.scope I a E,ag2 B fd.scope I a E,none,c.ax⟩
 have iU:ak d:=⟨l.g,l.aZ.keeps st,l.lim.keeps st,B',H.kind,H.kind,rfl,rfl,rfl,rfl,by refine gH l.top λp qa F G T=>?_;exact (nV p qa F G (T.keeps st)),H.cW,l.k7,l.ls,l.mU,λm=>rfl,(λm m e=>nomatch e),l.nq⟩
 have Mf:(A.deeper d.env).frames=some (d.bF::d.outer):=by show A.frames.map _=_;rw [hf];rfl
 have yv:aP d d' (A.deeper d.env):=⟨Mf,hd,hu,hh⟩
 have mx:(λy=>[(f,u),(g,afr D)].reverse.lookup y) f=some u:=by
  show ahU f [(g,afr D),(f,u)]=some u
  rw [afz,beq_eq_false_iff_ne.mpr (Ne.symm acg)]
  rw [afz,beq_self_eq_true]
 have my:(λy=>[(f,u),(g,afr D)].reverse.lookup y) g=some (.ref D):=by
  show ahU g [(g,afr D),(f,u)]=some _
  rw [afz,beq_self_eq_true]
 generalize hmm:(λy=>[(f,u),(g,afr D)].reverse.lookup y)=m' at mx my F'
 have R':SR d ⟨[(0,w),(1,.glob D)],[],σ.st,σ.n,σ.lo,[]⟩ ⟨h₁,s.gens,s.drawn,s.toks+2,s.os⟩ α N:=by
  refine ⟨(ay _ F' (λi v e=>?_)),λi v e=>(by exact aT e),n,R.nodup,R.inj,R.obj,R.all,R.hi,R.wf,R.bD,R.len,R.low,λi e=>(nomatch e),R.gens,R.os,iU.aZ.keeps F'.keep⟩
  rcases sT e with ⟨rfl,rfl⟩|⟨rfl,rfl⟩
  ·exact (dy f .local u n0 mx gZ)
  ·exact (dy g .local (.ref D) z my (.glob D))
 rw [ox]
 refine agx (wpAny_Try_except (agx (aiY ?_ (by unfold interactive;rw [show (ag2 B fd.scope I a E).scope.kind=.function from H.kind];rfl) (jV rfl _ _ _))))
 refine Call_ (zY iU nc kx hcv R' λfv uU=>?_)
 obtain rfl:fv=.ref col:=uU.inv
 refine eM (c:=d) (P:=λb=>W.K.In b) (by rfl) (λb qe=>keeps_K (l.g.keep col (.inl hck)) b qe) ?_
 refine agq (nK (c:=d) H.kind l0 F'.ns mx C2 ?_) (fz rfl)
 refine ahf ⟨R'.aZ,?_⟩
 refine qE d _ iU yv (.glob col) [w] _ _ _ acf (by intro q;contradiction) _ _ _ _ R' (λC' ev X Z bG n q gk gl x=>?_) _ _ (.glob col) (.cons gZ .nil) (by rw [show ae1 [w]=(w.sure&&true) from rfl];rw [i7 gZ];rfl) _ λm m m m m m q=>by contradiction
 cases q
 have hfo:d.outer.filterMap (·.frame)=[c.L]:=by
  show [c.bF].filterMap _=_
  rw [aiV,l.frame];rfl
 refine Rr (c:=d) iU rfl Mf H.kind l2 x (λp qa F G=>T C hCs p qa F G I) (λg' h' tk e oe m₂ hT yE rd ot dK eT A4 qM hg nv M=>?_)
 have YE:Ge α N α ((e,oe)::n):=⟨afJ _,λp b hn=>.tail _ (gk.ge.keep p b hn),λm h=>.inl h,λP ps h=>(aL (gk.ge.tab P ps h) λpf h'=>⟨pf,.tail _ h'⟩)⟩
 have nN:e∉(n++c.ax).map (·.1):=λq=>by
  refine Y (aeP.mp q) λp b ep=>?_
  exact eT p b ep
 have eα:e∉α:=λq=>nN (by rw [aeX];exact aeo _ (M.2.2 e (gk.ge.pre.subset q)))
 have cw:SR (d.at g') ⟨[(2,.fk C),(1,.glob D)],[],lK,σ.n,0,[]⟩ {Z with heap:=h',toks:=tk} α ((e,oe)::n):=by
  refine ⟨(ay _ rd (λi v q=>?_)),λi v e=>(by exact aT e),dK,?_,R.inj,λi o m q=>(by rw [show lK.get i=none from zG] at q;exact aT q),λa ha=>?_,λp b=>?_,yp,R.bD,R.len,afj _,λi e=>(nomatch e),hg,nv,qM.aZ.keeps rd.keep⟩
  ·rw [gl] at ot
   rcases sT q with ⟨rfl,rfl⟩|⟨rfl,rfl⟩
   ·exact (dy V .local (.ref e) n2 (if_pos rfl) (.fk (.head _) eα yE))
   ·refine cj (ot 1 (.glob D) rfl) λx' k' val z1 z2 z3=>?_
    refine ae (ae8 (aej (z.symm.trans z1))) ?_;clear z1;intro r m;subst r
    obtain rfl:val=.ref D:=z3.inv
    exact (dy g .local (.ref D) z ((if_neg ach).trans z2) (.glob D))
  ·show (((e,oe)::(n++c.ax)).map (·.1)).Nodup
   rw [aeU]
   refine ae3.mpr ⟨nN,?_⟩
   have nd:=R.nodup
   rw [aeX,ae7] at nd
   rw [aeX]
   refine ae7.mpr (bH M.1 nd.2.1 (λa ha qg hb=>?_))
   rintro rfl
   refine Y (aeP.mp ha) ?_;intro p b r;subst r
   exact (M.2.1 p b).2 hb
  ·exact ahH _ (M.2.2 a (gk.ge.pre.subset ha))
  ·rcases aeA.mp b with rfl|b
   ·refine beq_eq_false_iff_ne.mpr λqf=>?_
    refine aL mV λo ho=>?_
    have A4:c.base.get? e=none:=A4
    exact nomatch ho.symm.trans ((congrArg _ (show e=af1 from qf)).symm.trans A4)
   ·rcases aeQ.mp b with b|b
    ·exact (M.2.1 p b).1
    ·exact R.hi p (aeu _ b)
 refine hs (d.at g') _ qM rfl rfl _ _ _ y WM t _ _ _ _ cw (λC' e' k9 dW jk fY q=>absurd q (hyx C')) _ (λk9 dW jk fY q=>absurd q.symm t) λav k9 v dW jk fY hk j Q pk=>?_
 refine Y j.fr λiN js m=>?_
 refine name_goes_keeps js j.news (λLL v' ua mZ=>?_) H.kind l2
 have ge:=YE.trans Q.ge
 rw [hfo] at hT
 refine leaveS0_ ua mZ hT λMg aci=>kQ v av (back σ k9) _ jk fY hk ⟨(ay qb Mg (hm.mono ge)),R.aK.mono ge,aci,j.nodup,j.inj,j.obj,j.all,j.hi,j.wf,j.bD,j.len,j.low,λi q=>(by
  have q:i∈σ.mark:=q
  exact nomatch (HI▸q:i∈[])),j.gens,j.os,l.aZ.keeps Mg.keep⟩ ⟨⟨ge,aeE Q.lo (afj _),λi S=>NX S Q.lo,Q.n,rfl,λi a o S=>NX S Q.lo,λi S=>?_⟩,rfl⟩ pk
 exact nomatch (HI▸S:i∈[])
end
section
variable{W:Wd}
structure Gm where
 names:List (Str×afv)
 call:Call
 d:Nat
 code:Option (aez×Str)
 bA:Bool
structure c9 (G:Gm)(c:Cx W)(A:ae6):Prop where
 hc:ak c
 hA:aP c G.d A
 cl:dw W G.d G.call
 nm:∀ (n:Nat)x k,G.names[n]?=some (x,k)->cJ x=true/\∃ k',c.scope.names[n]?=some (x,k')/\(k'=k\/(k=.free/\k'=.cell))
 ex:G.bA=false->c.scope.names=G.names/\c.comp=none
 cd:∀ x,G.code=some x->c.env.code=.ref x.1/\c.env.qual=x.2
theorem c9.with (h:c9 G c A) (a:∀ p∈c.ax,p∈M):c9 G (c.with M) A:=
 ⟨h.hc.with a,h.hA.with M,h.cl,h.nm,h.ex,h.cd⟩
theorem c9.call(h:c9 G c A):jb c A G.call:=h.cl c A h.hc h.hA
theorem c9.at{G:Gm}(h:c9 G c A){n:Nat}{x k}(e:G.names[n]?=some (x,k)) (a:k≠.free):c.scope.names[n]?=some (x,k):=by
 refine AL (h.nm n x k e) ?_;clear h e;intro d f b W;rcases W with rfl|⟨W,_⟩
 ·exact b
 ·exact absurd W a
theorem c9.pl{G:Gm}(h:c9 G c A){n:Nat}{x k}(e:G.names[n]?=some (x,k)):cJ x=true:=(h.nm n x k e).1
theorem wV:NameKind.local≠.free:=by intro h;contradiction
theorem gi:ae5≠.free:=by intro h;contradiction
theorem HJ:ahm≠.free:=by intro h;contradiction
variable(W)in
noncomputable def JE(G:Gm)(e:aeM)(ce:Ev):Prop:=∀ (c:Cx W)A,c9 G c A->aE c A e ce
variable(W)in
noncomputable def JT(G:Gm)(e:aeM)(ct:Tc):Prop:=∀ (c:Cx W)A,c9 G c A->dB c A e ct
variable(W)in
noncomputable def JV(G:Gm)(es:List aeM)(ce:ec):Prop:=∀ (c:Cx W)A,c9 G c A->gL c A es ce
variable(W)in
noncomputable def JS(G:Gm)(st:afD)(cs:Sc):Prop:=∀ (c:Cx W)A,c9 G c A->bQ c A st cs
variable(W)in
noncomputable def JB(G:Gm)(ss:List afD)(cs:Sc):Prop:=∀ (c:Cx W)A,c9 G c A->cA c A ss cs
variable(W)in
noncomputable def JG(G:Gm)(e:aeM)(tg:Tg):Prop:=∀ (c:Cx W)A,c9 G c A->kc c A e tg
variable(W)in
noncomputable def JN(G:Gm)(x:Str)(tg:Tg):Prop:=∀ (c:Cx W)A,c9 G c A->q9 c A x tg
variable (W) in
noncomputable def jG (G:Gm) (es:List aeM) (g:iT):Prop:=∀ (c:Cx W) A,c9 G c A->(agQ es c.env).findIdx? (·.1)=none/\(agQ es c.env).length=es.length/\mu c A ((agQ es c.env).map (·.2)) g
variable (W) in
noncomputable def rK (G:Gm) (xs:List Str) (g:iT):Prop:=∀ (c:Cx W) A,c9 G c A->mu c A (xs.map λn v=>bindName c.env n v) g
variable(W)in
noncomputable def JI(G:Gm)(t e:aeM)(it:iW):Prop:=∀ (c:Cx W)A,c9 G c A->tz c A t e it
variable(W)in
noncomputable def JP(d:Nat)(f:ael)(p:Prim):Prop:=∀ (c:Cx W)A,ak c->aP c d A->dR c A f p
variable{G:Gm}
noncomputable def cg (a:List (Str×afv))(x:Str):Bool:=a.any λp=>p.1 ==x&&p.2 ==.globalImplicit
theorem gh (h:cg c x=true):∃ n:Nat,c[n]?=some (x,ae5):=by
 refine Y (List.any_eq_true.mp h) ?_;clear h;intro p G q;rw[afd]at q;refine aL (ahC.mp G) ?_;clear G;intro n e;obtain⟨a,b⟩:=p;exact⟨n,by rw[e,←beq_iff_eq.mp q.1,←beq_iff_eq.mp q.2]⟩
noncomputable def jH:Ev:=λG G=>.no
noncomputable def N2:Tc:=λG G=>.no
noncomputable def g0:Sc:=λG G G=>.no
theorem jNo:JE W G e jH:=λa a a a a a h b=>bO h b
theorem acj:JT W G e N2:=λa a a a a a h b=>bO h b
theorem oZ:JS W G s g0:=λa a a a a a a h b=>bO h b
theorem Mh:JB W G s g0:=λa a a a a a a h b=>bO h b
theorem jC (c:Ar d=some a):JE W G (.Constant d kk pos) (cC a):=λb b b=>te c
theorem ack{x pos}{n:Nat}(a:G.names[n]?=some (x,.local)):JE W G (.Name x pos) (J n):=λb b h=>kS h.hc (h.at a wV) (h.pl a)
noncomputable def A5 (a:List (Str×afv))(n:Nat)(x:Str):Bool:=match a[n]? with
 |some (y,k)=>y ==x&&(k ==.cell ||k ==.free)
 |none=>false
theorem acm (a:A5 G.names n x=true):JE W G (.Name x pos) (aA n):=λc A h=>by
 unfold A5 at a;split at a
 ·rename_i y k e;rw[afd]at a;refine ae a ?_;clear a;intro b d;rw[beq_iff_eq.mp b]at e;refine AL (h.nm _ _ _ e) ?_;clear e;intro f g i j;refine Uq h.hc ?_ i f;rcases j with rfl|⟨_,rfl⟩
  ·induction g using NameKind.casesOn<;>first|exact .inl rfl|exact .inr rfl|exact aX d
  ·exact .inl rfl
 ·exact aX a
theorem jGl{x pos v}(a:cg G.names x=true) (c:W.G.name x=some v):JE W G (.Name x pos) (cC v):=λb b h=>(aL (gh a) λb a=>R6 h.hc (h.at a gi) (h.pl a) c)
theorem acn (d:JT W G t e) (f:JE W G a g) (i:JE W G b j):JE W G (.IfExp t a b pos) (bC e g j):=λc A h=>Ur (d c A h) (f c A h) (i c A h)
theorem aco (d:afH op b=false) (e:JE W G a f) (g:JE W G b i):JE W G (.Compare a [op] [b] pos) (c6 op f i):=λc A h=>FF h.hc h.hA h.hc.g.tok d (e c A h) (g c A h)
theorem HK (d:afH op b=false) (e:JE W G a f) (g:JE W G b i):JT W G (.Compare a [op] [b] pos) (au op f i):=λc A h=>zW h.hc h.hA h.hc.g.tok d (e c A h) (g c A h)
theorem acp (a:zX e=true)(b:JE W G e d):JT W G e (cH d):=λc A h=>GA h.hc a (b c A h)
theorem YF (a:JT W G x b):JT W G (.UnaryOp .Not x pos) (fc b):=λc A h=>FI (a c A h)
theorem WN:JT W G (.BoolOp .And [] pos) bo:=λc A h=>R9
theorem Vp:JT W G (.BoolOp .Or [] pos) dQ:=λc A h=>QP
theorem YG (a:JT W G x b) (d:JT W G (.BoolOp .And rest pos) e):JT W G (.BoolOp .And (x::rest) pos) (c8 b e):=λc A h=>Uu (a c A h) (d c A h)
theorem acq (a:JT W G x b) (d:JT W G (.BoolOp .Or rest pos) e):JT W G (.BoolOp .Or (x::rest) pos) (bI b e):=λc A h=>Wg (a c A h) (d c A h)
theorem acr (a:JE W G x b):JE W G (.UnaryOp .Not x pos) (Bt b):=λc A h=>Uv h.hc (a c A h)
theorem acs (a:JE W G x b):JE W G (.UnaryOp .USub x pos) (iM b):=λc A h=>FW (a c A h)
theorem acu (a:JE W G x b) (d:JE W G (.BoolOp .And (z::rest) pos) e):JE W G (.BoolOp .And (x::z::rest) pos) (oN b e):=λc A h=>Uw h.hc (a c A h) (d c A h)
theorem jOr (a:JE W G x b) (d:JE W G (.BoolOp .Or (z::rest) pos) e):JE W G (.BoolOp .Or (x::z::rest) pos) (lN b e):=λc A h=>Wh h.hc (a c A h) (d c A h)
theorem jB1 (a:JE W G x b):JE W G (.BoolOp op [x] pos) b:=λc A h=>Sa (a c A h)
theorem A6:JV W G [] aI:=λa a a=>nM
theorem qx (a:aeH e=false) (b:JE W G e d) (f:JV W G g i):JV W G (e::g) (bg d i):=λc A h=>jR a (b c A h) (f c A h)
theorem Mi (a:JV W G b d):JE W G (.Tuple b e pos) (ai d):=λc A h=>Uy h.hc (a c A h)
theorem HL (a:JV W G b d):JE W G (.List b pos) (eh d):=λc A h=>ET h.hc (a c A h)
theorem jHl (a:JV W G b d):JE W G (.List b pos) (aY d):=λc A h=>Wi h.hc (a c A h)
theorem HM:JB W G [] aF:=λa a a=>qp
theorem v8{st a b d}(e:JS W G st b) (f:JB W G a d):JB W G (st::a) (eQ b d):=λc A h=>jZ (e c A h) (f c A h)
theorem Mj (a:JE W G e b):JS W G (.Return (some e) pos) (aG b):=λc A h=>vN (a c A h)
theorem YH:JS W G (.Return none pos) wk:=λc A h=>Sd
theorem jIf (d:JT W G t e) (f:JB W G a g) (i:JB W G b j):JS W G (.If t a b pos) (aB e g j):=λc A h=>sJ (d c A h) (f c A h) (i c A h)
theorem YI:JS W G (.Pass pos) aF:=λa a a=>Se
theorem YJ (a:nm=name) (b:eI o=true) (d:(cls.all λC=>W.G.attr C name)=true) (e:JE W G o f):JE W G (.Attribute o name pos) (aw cls nm f):=by subst a;exact λc A h=>Sf h.hc b d (e c A h)
theorem WO{x p a args pos d}(e:args.any aeH=false) (b:cg G.names x=true) (f:W.G.name x=some (.glob a)) (g:((W.G.fn a).isSome ||(W.G.init a).isSome)=true) (i:JV W G args d):JE W G (.Call (.Name x p) args [] pos) (az G.call a d):=
 λc A h=>(aL (gh b) λj b=>zq h.hc h.call e (h.at b gi) (h.pl b) f (by rwa [afT] at g) (i c A h))
theorem Vq{x p a args pos d}(e:args.any aeH=false) (b:cg G.names x=true) (f:W.G.name x=some (.glob a)) (g:((W.G.fn a).isSome ||(W.G.init a).isSome)=true) (i:JV W G args d):JE W G (.Call (.Name x p) args [] pos) (az (bc G.call) a d):=
 λc A h=>(aL (gh b) λj b=>zq h.hc (EZ h.hc h.call) e (h.at b gi) (h.pl b) f (by rwa [afT] at g) (i c A h))
noncomputable def sg (args:List aeM):Bool:=afu args.length (nat_lit 30)
theorem YK (a:nm=name) (b:eI o=true) (d:args.any aeH=false) (e:sg args=true) (f:(g.endLine ==pos.line)=true) (i:(j.all λp=>W.G.cu p.1 name ==some p.2)=true) (k:JE W G o l) (m:JV W G args n):JE W G (.Call (.Attribute o name g) args [] pos) (a9 G.call j nm l n):=
 by subst a;exact λc A h=>EU h.hc h.call b d (aer e) f i (k c A h) (m c A h)
theorem WQ (a:nm=name) (b:eI o=true) (d:args.any aeH=false) (e:sg args=true) (f:(g.endLine ==pos.line)=true) (i:(j.all λp=>W.G.cu p.1 name ==some p.2)=true) (k:JE W G o l) (m:JV W G args n):JE W G (.Call (.Attribute o name g) args [] pos) (a9 (bc G.call) j nm l n):=
 by subst a;exact λc A h=>EU h.hc (EZ h.hc h.call) b d (aer e) f i (k c A h) (m c A h)
theorem acv (a:qr i=true) (b:JE W G o d) (e:JE W G i f):JE W G (.Subscript o i pos) (af d f):=λc A h=>FR h.hc a (b c A h) (e c A h)
theorem YL (a:JE W G o b) (d:JE W G u e):JE W G (.Subscript o (.Slice none (some u) none p) pos) (qF b e):=λc A h=>Sy h.hc (a c A h) (d c A h)
theorem YM (a:JE W G o b) (d:JE W G u e):JE W G (.Subscript o (.Slice (some u) none none p) pos) (qG b e):=λc A h=>SD h.hc (a c A h) (d c A h)
theorem acw (d:JE W G a e) (f:JE W G b g):JE W G (.BinOp a .Add b pos) (bb m e g):=λc A h=>UJ h.hc (d c A h) (f c A h)
theorem acx (d:JE W G a e) (f:JE W G b g):JE W G (.BinOp a .Mult b pos) (ud e g):=λc A h=>Vh h.hc (d c A h) (f c A h)
theorem YN{p x d v args b pos}(e:JP W G.d v p) (f:args.any aeH=false) (a:cg G.names x=true) (g:W.G.boot x=true) (i:ah4 x=some v) (j:noRef v=true) (k:JV W G args b):JE W G (.Call (.Name x d) args [] pos) (aQ p b):=
 λc A h=>(aL (gh a) λl a=>vF h.hc f (h.at a gi) (h.pl a) g i j (e c A h.hc h.hA) (k c A h))
theorem YO:JP W d (.builtin "len") dC:=λG G G G=>UH
theorem Vr:JP W d (.type "tuple") bJ:=λG G h G=>Q0 h
theorem Vs:JP W d (.type "list") gd:=λG G h G=>Q1 h
theorem Vt:JP W d (.type "list") sQ:=λG G h G=>Q2 h
theorem WR:JP W d (.type "int") wt:=λG G G G=>E2
theorem Tv:JP W d (.builtin "sorted") nS:=λG G h a=>Ql h a
theorem YP:JP W d (.builtin "all") BE:=λG G h a=>UM h a
theorem YQ:JP W d (.type "str") mX:=λG G G G=>UP
theorem F8:JP W d (.builtin "isinstance") Aw:=λG G G G=>Ez
theorem Tw:JP W d (.builtin "list.append") dZ:=λG G h G=>Qe h
theorem Tx:JP W d (.builtin "list.extend") nR:=λG G h G=>Qh h
theorem YR:JP W d (.builtin "list.pop") tS:=λG G h G=>UK h
theorem YS:JP W d (.builtin "dict.get") oO:=λG G G G=>UL
theorem Tz:JP W d (.builtin "str.startswith") Ac:=λG G G G=>Qn
theorem WS:JP W d (.builtin "str.join") wy:=λG G G G=>SI
theorem Vu:JP W d (.builtin "tuple.count") Av:=λG G G G=>Q8
theorem WT{e f pos x d}(g:aeH x=false) (a:cg G.names ("isinstance" :Str)=true) (b:cg G.names ("tuple" :Str)=true) (i:W.G.boot "isinstance" =true) (j:W.G.boot "tuple" =true) (k:JE W G x d):
 JE W G (.Call (.Name "isinstance" e) [x,.Name "tuple" f] [] pos) (sS d):=λc A h=>(aL (gh a) λl a=>let⟨_,b⟩:=gh b;Q9 h.hc g (h.at a gi) (h.at b gi) i j (k c A h))
variable(W)in
noncomputable def rL(T:String)(ty:Tr->O->Bool):Prop:=∀ {c:Cx W}{σ:LS}{s:aep}{α N}{v:O}{val:ael},ty σ.st v=true->SR c σ s α N->VR W.kt α N val v->s.TypeIs val T/\∀ a,val=.ref a->∃ o,s.heap.get? a=some o/\o.dict=none
theorem jMB{T name id a p o b pos args d e}(f:rL W T a) (g:PlainAttrs T) (i:Slot T name id) (j:typeOf (.builtin id)=pure (.type "method_descriptor")) (k:JP W G.d (.builtin id) p) (l:eI o=true) (m:args.any aeH=false) (n:sg args=true) (q:(b.endLine ==pos.line)=true) (r:JE W G o d) (s:JV W G args e):JE W G (.Call (.Attribute o name b) args [] pos) (bT a p d e):=
 λc A h=>Wn h.hc l m (aer n) q (λt u v=>f t u v) g i j (k c A h.hc h.hA) (r c A h) (s c A h)
theorem C6:rL W "list" c0:=λh R G=>Q4 h R G
theorem tyD:rL W "dict" n7:=λh R G=>Q5 h R G
theorem N3:rL W "str" tl:=λh R G=>SE h R G
theorem tyT:rL W "tuple" AU:=λh R G=>SH h R G
end
section
variable{W:Wd}{G:Gm}
noncomputable def m5 (a:List (Str×afv)):Env:={scope:=⟨.function,a,false,false,[]⟩,locals:=0,globals:=0,cells:=[]}
theorem D9 (b:env.scope.kind=.function)(d:env.scope.names=a):ag4 c v env=ag4 c v (m5 a):=by
 obtain⟨⟨_,_,_,_,_⟩⟩:=env
 cases b
 subst a;rfl
theorem sw_eq (b:env.scope.kind=.function)(c:env.scope.names=a):aiw v t l env=aiw v t l (m5 a):=by
 obtain⟨⟨_,_,_,_,_⟩⟩:=env
 cases b
 subst a;rfl
noncomputable def sV{a:Type}(z:a)(e:aeM)(f:Str->a):a:=match e with
 |.Name x G=>f x
 |_=>z
theorem zz{a:Type}{z y₀:a}{f:Str->a}(h:sV z e f=y₀)(b:y₀≠z):∃ x p,e=.Name x p/\f x=y₀:=by induction e using afK with
 |Name x p=>exact⟨x,p,rfl,h⟩
 |_=>exact absurd h.symm b
noncomputable def F9{a:Type}(z:a)(e:aeM)(f:List aeM->a):a:=match e with
 |.Tuple l G W=>f l
 |_=>z
theorem Qz{a:Type}{z y₀:a}{f:List aeM->a}(h:F9 z e f=y₀)(b:y₀≠z):∃ x k p,e=.Tuple x k p/\f x=y₀:=by induction e using afK with
 |Tuple x k p=>exact⟨x,k,p,rfl,h⟩
 |_=>exact absurd h.symm b
theorem YT (a:G.names[n]?=some (x,.local))(b:G.bA=false):JN W G x (aq n):=λc c h=>zZ h.hc (h.ex b).2 (h.at a wV)
theorem YU (a:G.names[n]?=some (x,.cell)):JN W G x (fe n):=λb b h=>FN h.hc (h.at a HJ)
theorem YV (a:G.names[n]?=some (x,.local)) (b:G.bA=false):JG W G (.Name x pos) (aq n):=λc c h=>FL h.hc (h.ex b).2 (h.at a wV)
theorem YW (a:G.names[n]?=some (x,.cell)):JG W G (.Name x pos) (fe n):=λb b h=>Uz h.hc (h.at a HJ)
theorem WU:jG W G [] bL:=λa a a=>(bH rfl rfl FO)
theorem Pn (h:aeH t=false):agQ (t::r) env=(false,aio t env)::agQ r env:=by
 induction t using afK<;>first|rfl|exact gr h
theorem Vv (b:aeH t=false) (d:JG W G t g) (a:jG W G r e):jG W G (t::r) (aV g e):=λc A h=>by
 refine bU (a c A h) ?_;clear a;intro f i j;rw[Pn b];refine (bH ?_ (congrArg (·+1) i) (EV (d c A h) j));rw[List.findIdx?_cons,if_neg nofun,f];rfl
theorem YX (b:aew elts.length n=true) (a:jG W G elts d):JG W G (.Tuple elts kk pos) (cD n d):=λc A h=>by
 refine bU (a c A h) ?_;clear a;intro e f g;rw[←aem b,←f];exact UA h.hc h.hA e g
theorem HN (b:aew elts.length n=true) (a:jG W G elts d):∀ (c:Cx W) A,c9 G c A->nr c A (.Tuple elts kk pos) (cD n d):=λc A h=>by
 refine bU (a c A h) ?_;clear a;intro e f g;rw[←aem b,←f];exact FP h.hc h.hA e g
theorem WV:rK W G [] bL:=λa a a=>FO
theorem Vx (a:JN W G x g) (b:rK W G r d):rK W G (x::r) (aV g d):=λc A h=>EV (Si (a c A h)) (b c A h)
theorem xM (a:eK e=false) (b:JN W G x g) (d:JE W G e f):JS W G (.Assign [.Name x i] e p) (aC g f):=λc A h=>FQ a (b c A h) (d c A h)
theorem YY (b:eK e=false) (d:G.bA=false) (f:ag4 [.Tuple elts kk a] e (m5 G.names)=pure none) (i:JG W G (.Tuple elts kk a) g) (j:JE W G e k):JS W G (.Assign [.Tuple elts kk a] e p) (aC g k):=
 λc A h=>Sg b (by rw [D9 h.hc.kind (h.ex d).1];exact f) (i c A h) (j c A h)
noncomputable def nT (l:List aeM):List Str:=aeL [] (λe W G=>sV G e λx=>x::G) l
theorem YZ (a:eK e=false) (b:G.bA=false) (d:ag4 [.Tuple elts kk f] e (m5 G.names)=pure (some (nT elts))) (i:aew (nT elts).length n=true) (j:rK W G (nT elts).reverse g) (k:JE W G e l):JS W G (.Assign [.Tuple elts kk f] e p) (aC (ff n g) l):=
 λc A h=>by rw [←aem i];exact Sh h.hc h.hA a (by rw [D9 h.hc.kind (h.ex b).1];exact d) (j c A h) (k c A h)
theorem Y0 (a:eK e=false) (b:JE W G e d):JS W G (.Expr e p) (bq d):=λc A h=>Sj h.hc a (b c A h)
theorem WW (a:nm=name) (b:eK e=false) (d:(cls.all λC=>W.G.attr C name)=true) (f:JE W G o g) (i:JE W G e j):JS W G (.Assign [.Attribute o name k] e p) (bk cls nm g j):=by subst a;exact λc A h=>QS h.hc b d (f c A h) (i c A h)
theorem acy (a:JE W G e b) (d:JE W G o f) (g:JE W G i j):JS W G (.Assign [.Subscript o i k] e p) (bX b f j):=λc A h=>Vf h.hc (a c A h) (d c A h) (g c A h)
theorem Y1 (a:JE W G e b) (d:JE W G o f) (g:JE W G i j):JS W G (.Assign [.Subscript o i k] e p) (wU b f j):=λc A h=>Ti h.hc h.hA (a c A h) (d c A h) (g c A h)
theorem Y2 (d:afH .In b=false) (e:JE W G a f) (g:JE W G b i):JT W G (.Compare a [.In] [b] pos) (xI f i):=λc A h=>Vg h.hc h.hA d (e c A h) (g c A h)
theorem TA (b:eI o=true) (d:(e.endLine ==f.line)=true) (g:JE W G a i) (j:JE W G o k):
 JT W G (.Compare a [.In] [.Call (.Attribute o "values" e) [] [] f] pos) (sA i k):=λc A h=>Qt h.hc h.hA b d rfl (g c A h) (j c A h)
theorem acz (d:G.bA=false) (e:hJ b=true) (f:JE W G b g) (i:JG W G target j) (k:JB W G body l):JS W G (.For target b body [] pos) (du j g l):=
 λc A h=>UG h.hc (h.ex d).2 h.hA e (f c A h) (λM a=>i _ A (h.with a)) (λM a=>k _ A (h.with a))
theorem Y3 (d:G.bA=false) (f:aeH e=false) (a:cg G.names ("range" :Str)=true) (g:W.G.boot "range" =true) (i:JE W G e j) (k:JG W G target l) (m:JB W G body n): JS W G (.For target (.Call (.Name "range" o) [e] [] p) body [] pos) (qJ l j n):=
 λc A h=>(gh a).elim λq a=>SK h.hc (h.ex d).2 h.hA f (h.at a gi) g (i c A h) (λM b=>k _ A (h.with b)) (λM b=>m _ A (h.with b))
theorem WX (d:G.bA=false) (f:aeH e=false) (a:cg G.names ("enumerate" :Str)=true) (g:W.G.boot "enumerate" =true) (i:aew elts.length n=true) (j:JE W G e k) (l:jG W G elts m) (o:JB W G body p): JS W G (.For (.Tuple elts kk q) (.Call (.Name "enumerate" r) [e] [] s) body [] pos) (oa (cD n m) k p):=
 λc A h=>(gh a).elim λt a=>Rj h.hc (h.ex d).2 h.hA f (h.at a gi) g (j c A h) (λM b=>HN i l _ A (h.with b)) (λM b=>o _ A (h.with b))
theorem Y4 (f:G.bA=false) (g:aeH d=false) (i:aeH e=false) (a:cg G.names ("zip" :Str)=true) (j:W.G.boot "zip" =true) (k:aew elts.length n=true) (l:JE W G d c1) (m:JE W G e c2) (o:jG W G elts p) (q:JB W G body r): JS W G (.For (.Tuple elts kk s) (.Call (.Name "zip" t) [d,e] [] u) body [] pos) (qN (cD n p) c1 c2 r):=
 λc A h=>(gh a).elim λv a=>SY h.hc (h.ex f).2 h.hA g i (h.at a gi) j (l c A h) (m c A h) (λM b=>HN k o _ A (h.with b)) (λM b=>q _ A (h.with b))
theorem Y5 (b:G.bA=false) (d:hJ a=true) (f:G.names[n]?=some (x,.local)) (g:eK e=false) (i:JE W G a j) (k:JE W G e l):JS W G (.For (.Name x o) a [.Expr e p] [] pos) (wM n j l):=
 λc A h=>Ta h.hc (h.ex b).2 h.hA d (h.at f wV) g (i c A h) (λM m=>k _ A (h.with m))
theorem WY (a:G.bA=false) (b:JT W G d t) (e:JB W G body f):JS W G (.While d body [] pos) (n8 t f):=
 λc A h=>Ra h.hc (h.ex a).2 h.hA (b c A h) (e c A h)
theorem oy (a:JE W G e b):JI W G t e (cy b):=λc A h=>UT h.hc h.hA (a c A h)
theorem Y6 (b:aeH e=false) (a:cg G.names ("range" :Str)=true) (d:W.G.boot "range" =true) (f:JE W G e g):JI W G t (.Call (.Name "range" i) [e] [] pos) (iP g):=λc A h=>(gh a).elim λj a=>UZ h.hc h.hA b (h.at a gi) d (f c A h)
theorem Y7 (b:aeH e=false) (a:cg G.names ("reversed" :Str)=true) (d:W.G.boot "reversed" =true) (f:JE W G e g):JI W G t (.Call (.Name "reversed" i) [e] [] pos) (rk g):=λc A h=>(gh a).elim λj a=>U0 h.hc h.hA b (h.at a gi) d (f c A h)
noncomputable abbrev Gm.g5(G:Gm)(sc:afC):Gm:={G with names:=sc.names,bA:=true,code:=none}
theorem QA{sc:afC}{env:Env}{n:Nat}{x:Str}{k:afv}(h:sc.names[n]?=some (x,k)):∃ a,(ag0 sc env).names[n]?=some (x,a)/\(a=k\/(k=.free/\a=.cell)):=by
 unfold ag0;rw[aga,h];dsimp only[Option.map_some];refine if h:_ then (ay _ (congrArg some (if_pos h)) (.inr ⟨beq_iff_eq.mp (aei.mp (aei.mp h).1).1,rfl⟩)) else (ay _ (congrArg some (if_neg h)) (.inl rfl))
theorem c9.g5{c:Cx W}{A}(h:c9 G c A){sc:afC}{cl C a M}(b:sc.kind=.function) (d:(sc.names.map (·.1)).Nodup) (f:(sc.names.all λp=>cJ p.1)=true) (g:∃ o,(C,o)∈M):c9 (G.g5 sc) (c.bA sc cl C a M) A:=
 ⟨h.hc.bA b d g,h.hA.bA,h.cl,λn x k e=>⟨aeK.mp f (x,k) (aeV e),QA e⟩,λq=>(by exact gr q),λi q=>by exact aT q⟩
noncomputable def rM (sc:afC) (e:aeM) (t:CT):Bool:=CT.casesOn (motive:=λG=>Bool) t (λn=>sV false e λx=>sc.names[n]? ==some (x,NameKind.local))
 (λn m=>F9 false e λl=>aeC (motive:=λG=>Bool) l false λa r=>aeC (motive:=λG=>Bool) r false λb r=>j8 false r (sV false a λx=>sV false b λy=>sc.names[n]? ==some (x,NameKind.local)&&sc.names[m]? ==some (y,NameKind.local)&&!(n ==m)))
theorem WZ (h:rM sc e t=true):oR sc e t:=by
 induction t using CT.casesOn with
 |one n=>
  refine be (zz h nofun) ?_;clear h;intro x p G h;subst G;exact .one (beq_iff_eq.mp h)
 |two n m=>
  refine kW (Qz h nofun) ?_;clear h;intro l k p G h;subst G;induction l using aeC with
  |nil=>exact aX h
  |cons a r=>induction r using aeC with
   |nil=>exact aX h
   |cons b r=>
    refine ae (kL h nofun) ?_;clear h;intro G W;subst G;refine be (zz W nofun) ?_;clear W;intro x o G c;subst G;refine be (zz c nofun) ?_;clear c;intro y q G d;subst G;refine ae (aei.mp d) λf g=>?_
    refine ae (aei.mp f) λi j=>?_
    exact .two (beq_iff_eq.mp i) (beq_iff_eq.mp j) (beq_eq_false_iff_ne.mp ((aeT _).mp g))
noncomputable def jI (sc b:List (Str×afv))(a:List (Nat×Nat)):Bool:=
 ((af2 sc.length).all λn=>aD true sc[n]? λq=>!(q.2 ==.free) ||a.any λp=>p.1 ==n)&&a.all λp=>aD false sc[p.1]? λq=>aD false b[p.2]? λr=>q.2 ==.free&&q.1 ==r.1
theorem AA (h:jI sc.names g.names b=true):oQ sc g b:=by
 refine ae (aei.mp h) ?_;clear h;intro G c;refine⟨λn x e=>?_,λp W=>?_⟩
 ·have G:=aeK.mp G n (agO.mpr (ae4.mp e).1);rw[e]at G;refine Y (List.any_eq_true.mp (show (b.any λp=>p.1 ==n)=true from G)) ?_;clear G;intro p W q
  exact⟨p.2,by rw[←beq_iff_eq.mp q];exact W⟩
 ·refine Y (aR (aeK.mp c p W) nofun) ?_;clear c W;intro a i d;obtain⟨x,k⟩:=a;refine Y (aR d nofun) ?_;clear d;intro a j f;obtain⟨y,l⟩:=a;refine ae (aei.mp f) ?_;clear f;intro m o;obtain rfl:k=.free:=beq_iff_eq.mp m;obtain rfl:x=y:=beq_iff_eq.mp o;exact (gJ x l i j)
noncomputable def rN (sc:afC):Bool:=decide (sc.kind=.function)&&decide ((sc.names.map (·.1)).Nodup)&&(sc.names.all λp=>cJ p.1)&&sc.names.all λp=>!(p.2 ==.cell)
theorem W1 (h:rN sc=true):sc.kind=.function/\(sc.names.map (·.1)).Nodup/\(sc.names.all λp=>cJ p.1)=true/\∀ x∈sc.names,x.2≠.cell:=by
 refine ae (aei.mp h) ?_;clear h;intro G a;refine ae (aei.mp G) ?_;clear G;intro W b;refine ae (aei.mp W) ?_;clear W;intro c d;refine (j6 (of_decide_eq_true c) (of_decide_eq_true d) b (λx e q=>?_))
 have:=aeK.mp a x e;rw[q]at this;exact aX this
variable(W)in
noncomputable def pA(G:Gm)(ifs:List aeM)(ct:Tc):Prop:=∀ (c:Cx W)A,c9 G c A->sy c A ifs ct
theorem W2:pA W G [] bo:=λa a a=>Rd
theorem W3 (h:JT W G e a):pA W G [e] a:=λc A x=>Rg (h c A x)
noncomputable def uW(nt:Bool)(a:List aeM):Bool:=aex true a.isEmpty nt
theorem Mk{target a g b sc t nt i j k l}(n:G.bA=false) (o:hJ a=true) (hsc:rN sc=true) (p:rM sc target t=true) (r:uW nt b=true) (s:jI sc.names G.names i=true) (u:JI W G target a j) (v:pA W (G.g5 sc) b k) (w:JE W (G.g5 sc) g l){c:Cx W}{A}(h:c9 G c A): vY c A target a g b sc t nt i j k l:=by
 refine j5 (W1 hsc) ?_;clear hsc;intro d e m x;refine⟨WZ p,d,e,λq=>?_,x,AA ?_,o,u c A h,λC y M z f=>v _ A ?_,λC y M z f=>w _ A ?_⟩
 ·subst q;exact aiv.mp r
 ·rw[show c.scope.names=G.names from (h.ex n).1];exact s
 ·exact c9.g5 h d e m f
 ·exact c9.g5 h d e m f
theorem Y8{target a d b sc pos st t nt e f g i}(j:G.bA=false) (k:hJ a=true) (hsc:rN sc=true) (l:rM sc target t=true) (m:uW nt b=true) (n:jI sc.names G.names e=true) (o:JI W G target a f) (p:pA W (G.g5 sc) b g) (q:JE W (G.g5 sc) d i):
 JE W G (.ListComp d [⟨target,a,b,0⟩] sc pos) (bP st t nt e f g i):=λc A h=>SS h.hc (h.ex j).2 h.hA (Mk j k hsc l m n o p q h)
theorem W4{target a d b sc pos st t nt g i j k x p e l}(f:G.bA=false) (m:aiw (.ListComp d [⟨target,a,b,0⟩] sc pos) (some (.Name x e)) p.line (m5 G.names)=pure true) (n:hJ a=true) (hsc:rN sc=true) (o:rM sc target t=true) (q:uW nt b=true) (r:jI sc.names G.names g=true) (s:JI W G target a i) (u:pA W (G.g5 sc) b j) (v:JE W (G.g5 sc) d k) (w:JG W G (.Name x e) l): JS W G (.Assign [.Name x e] (.ListComp d [⟨target,a,b,0⟩] sc pos) p) (la st t nt g i j k l):=
 λc A h=>SU h.hc (h.ex f).2 h.hA (Mk f n hsc o q r s u v h) (by rw [sw_eq h.hc.kind (h.ex f).1];exact m) (λM y=>w _ A (h.with y))
end
section
variable{W:Wd}{G:Gm}
variable (W)in
noncomputable def JD (G:Gm)(keys:List (Option aeM))(vals:List aeM)(xs:List Str)(ces:ec):Prop:=∀ (c:Cx W)A,c9 G c A->uc c A keys vals xs ces
theorem Y9:JD W G [] [] [] aI:=λa a a=>Yx
theorem W5 (d:b=x) (e:afp x=true) (f:JE W G g i) (j:JD W G k vs l m):JD W G (some (.Constant (.str x) kk n)::k) (g::vs) (b::l) (bg i m):=
 by subst d;exact λc A h=>WE (te (a:=.str b) (by show aN none (afp b) (some (O.str b))=_;rw[e];rfl)) (f c A h) (j c A h)
noncomputable def A7 (a:List (Option aeM))(vals:List aeM)(b:List Str):Bool:=a.all (·.isSome)&&aew a.length vals.length&&!a.isEmpty&&aeZ a.length 15&&LY b
theorem Za (e:G.bA=false) (a:A7 b vals d=true) (f:JD W G b vals d g):JE W G (.Dict b vals pos) (hV d g):=λc A h=>by
 unfold A7 at a;simp only[afd,aeT,List.isEmpty_eq_false_iff]at a;exact Te h.hc (h.ex e).2 a.1.1.1.1 (aem a.1.1.1.2) a.1.1.2 (aer a.1.2) a.2 λM i=>f _ A (h.with i)
theorem W6:JE W G (.Dict [] [] pos) et:=λc A h=>Ro h.hc
theorem TB (f:aeH d=false) (g:aeH e=false) (a:cg G.names ("dict" :Str)=true) (b:cg G.names ("zip" :Str)=true) (i:W.G.boot "dict" =true) (j:W.G.boot "zip" =true)
 (k:JE W G d c1) (l:JE W G e c2):JE W G (.Call (.Name "dict" n) [.Call (.Name "zip" o) [d,e] [] p] [] q) (pZ c1 c2):=λc A h=>(gh a).elim λm a=>(gh b).elim λm b=>PY h.hc h.hA f g (h.at a gi) (h.at b gi) i j (k c A h) (l c A h)
theorem W7 (b:args.any aeH=false) (d:(e.all λa=>(W.G.fn a).isSome)=true) (f:JE W G (.Name x p) g) (i:JV W G args j):JE W G (.Call (.Name x p) args [] pos) (oh G.call e g j):=
 λc A h=>Rk h.hc h.call b d (f c A h) (i c A h)
theorem W8 (a:nm=name) (b:eI o=true) (d:(e.all λp=>tD W.K p.1 name p.2)=true) (f:JE W G o g):JE W G (.Attribute o name pos) (vZ e nm g):=by subst a;exact λc A h=>Rl h.hc b d (f c A h)
noncomputable def ue (sc:afC):Bool:=decide ((sc.names.map (·.1)).Nodup)
theorem acA{i id P d e x sc body pos q b}{a:Arguments}(j:G.bA=false) (k:jI sc.names G.names d=true) (l:ue sc=true) (f:G.code=some (b,q)) (m:ju W.K b P=true) (n:(q++"<lambda>" :Str)=e) (o:kg W.K=true) (p:W.kt.bY id=some ⟨x,.expr body,sc⟩) (g:a.defaults=[]/\a.kw_defaults=[]) (r:∀ name s t u w y v,agL (kla_fn name s a body sc t u w y) ⟨[v],[]⟩=pure [(x,v)]):JE W G (.Lambda a body sc pos) (mJ i P e id d):=λc A h=>by
 refine ae (h.cd _ f) ?_;clear f;intro z B;exact Vc h.hc (AA (by rw [show c.scope.names=G.names from (h.ex j).1];exact k)) (of_decide_eq_true l) ⟨b,z,m⟩ (by rw [B];exact n) o p (by refine ae g ?_;clear g;intro C D;obtain ⟨_,_,_,_,E,_,F⟩:=a;cases C;cases D;rfl) r
noncomputable def wW (a:List (Str×afv))(x:Str):Bool:=!(a.lookup x ==some .globalExplicit)
theorem acB{l id P e f x name sc body pos q b g}{a:Arguments}(i:G.bA=false) (m:jI sc.names G.names e=true) (n:ue sc=true) (j:G.code=some (b,q)) (o:ju W.K b P=true) (d:wW G.names name=true) (p:(q++name:Str)=f) (r:kg W.K=true) (s:W.kt.bY id=some ⟨x,.stmts body,sc⟩) (k:a.defaults=[]/\a.kw_defaults=[]) (t:∀ env,annTrees a none env=[]) (u:∀ name w y z B C D v,agL (fnX name w a body sc y .none .none z B none C D) ⟨[v],[]⟩=pure [(x,v)]) (E:JN W G name g):JS W G (.FunctionDef name a body [] none [] sc none name pos) (ub l P f id e g):=λc A h=>by
 refine ae (h.cd _ j) ?_;clear j;intro F H;have I:c.env.kindOf name=G.names.lookup name:=by unfold Env.kindOf;rw [show c.env.scope.names=G.names from (h.ex i).1]
 refine Vd h.hc (AA (by rw [show c.scope.names=G.names from (h.ex i).1];exact m)) (of_decide_eq_true n) (ay b F o) ?_ r s k.1 k.2 (t _) u (E c A h)
 unfold qualnameIn;rw [I,H];unfold wW at d;rw [aeT] at d;rw [if_neg (by rw [d];exact aeY)]
 exact p
theorem W9 (H:m4 W.K C b) (d:sU W b) (e:keepIn W.K (.ref C)=true) (f:args.any aeH=false) (a:cg G.names x=true) (g:W.G.name x=some (.glob C)) (i:JV W G args j):
 JS W G (.Raise (some (.Call (.Name x k) args [] l)) none pos) (cz C j):=λc A h=>(gh a).elim λm a=>Rq h.hc h.hA H d e f (h.at a gi) (h.pl a) g (i c A h)
noncomputable def HO(fd:aJ)(x y:Str):Bool:=x ==y&&!eO fd.scope x
noncomputable def GP (fd:aJ)(E:aM):Bool:=aew E.cells.length (jS fd.scope).length&&(af2 (jS fd.scope).length).all λi=>aD true (jS fd.scope)[i]? λx=>aD false E.cells[i]? λq=>q.2 ==qD fd.params x&&aD false fd.scope.names[q.1]? λy=>HO fd x y.1
noncomputable def Zb(fd:aJ)(E:aM):Bool:=(af2 fd.params.length).all λi=>aD true fd.params[i]? λx=>aD false fd.scope.names[i]? λy=>x ==y.1&&(!(E.flags[i]? ==some true) ||y.2 ==.local)
noncomputable def xN (fd:aJ)(E:aM):Bool:=aew E.n fd.params.length&&Zb fd E&&aeZ E.flags.length fd.params.length&&decide fd.params.Nodup&&decide (jS fd.scope).Nodup&&GP fd E&&fd.scope.names.all λp=>cJ p.1
theorem wX (m:E.gV=fd.di) (b:xN fd E=true) (o:∀ call d,JB W ⟨fd.scope.names,call,d,fd.code,false⟩ fd.body (E.body call)):k8 W fd E:=by
 unfold xN at b;simp only[afd]at b;refine ae b ?_;clear b;intro a r;obtain ⟨⟨⟨⟨⟨s,t⟩,u⟩,v⟩,w⟩,f⟩:=a;refine ⟨aem s,m,λi x e=>?_,aer u,of_decide_eq_true v,of_decide_eq_true w,?_,λcall d z c A B C D j F=>?_⟩
 ·have q:=aeK.mp t i (agO.mpr (ae4.mp e).1);rw[e]at q;refine Y (aR (show aD false fd.scope.names[i]? (λy=>x ==y.1&&(!(E.flags[i]? ==some true) ||y.2 ==.local))=true from q) nofun) ?_;clear q;intro a g q;obtain ⟨y,k⟩:=a
  refine ae (aei.mp q) λh G=>?_
  rw[←beq_iff_eq.mp (show (x ==y)=true from h)]at g;refine (ay k g (λH=>?_))
  rw[H]at G;exact beq_iff_eq.mp (show (k ==NameKind.local)=true from G)
 ·unfold GP at f;rw[afd]at f;refine ⟨aem f.1,λi x e=>?_⟩
  have q:=aeK.mp f.2 i (agO.mpr (ae4.mp e).1);rw[e]at q;refine Y (aR (show aD false E.cells[i]? (λq=>q.2 ==qD fd.params x&&aD false fd.scope.names[q.1]? λy=>HO fd x y.1)=true from q) nofun) ?_;clear q;intro a g q;obtain ⟨n,p⟩:=a
  refine ae (aei.mp q) ?_;clear q;intro h G;refine Y (aR G nofun) ?_;clear G;intro a l G;obtain ⟨y,k⟩:=a;refine ae (aei.mp (show (x ==y&&!eO fd.scope x)=true from G)) ?_;clear G;intro I L;rw[←beq_iff_eq.mp I]at l;exact (bB n k (by rw[g,beq_iff_eq.mp (show (p ==qD fd.params x)=true from h)]) l ((aeT _).mp L))
 ·refine o call d c A ⟨B,C,z,λn x k e=>(we (aeK.mp r (x,k) (aeV e)) k (by rw[j];exact e) (.inl rfl)),λM=>⟨by rw[j],D⟩,F⟩
noncomputable def rn (D:mT)(a:Nat):Bool:=D.scope.names[a]? ==some (D.param,.local)&&decide ((D.scope.names.map (·.1)).Nodup)&&(D.scope.names.all λp=>!(p.2 ==.cell))&&!D.scope.isCoroutine&&!D.scope.isGenerator&&decide (D.scope.kind=.function)&&D.scope.names.all λp=>cJ p.1
theorem Ga(h:rn D a=true):xG D a/\(D.scope.names.all λp=>cJ p.1)=true:=by
 unfold rn at h;simp only[afd,aeT]at h;refine ae h ?_;clear h;intro G W;obtain⟨⟨⟨⟨⟨b,c⟩,d⟩,e⟩,f⟩,g⟩:=G;exact⟨⟨beq_iff_eq.mp b,of_decide_eq_true c,λx i q=>(by have:=aeK.mp d x i;rw[q]at this;exact aX this),e,f,of_decide_eq_true g⟩,W⟩
theorem acC{b:Call->Ev}(h:rn ⟨x,.expr body,sc⟩ a=true) (f:∀ call d,JE W ⟨sc.names,call,d,none,false⟩ body (b call)):gN W ⟨x,.expr body,sc⟩ (.e a b):=by
 refine ae (Ga h) ?_;clear h;intro g i;exact .e g rfl λcall d j c A l m o G=>f call d c A ⟨l,m,j,λn x k e=>(we (aeK.mp i (x,k) (aeV e)) k (by rw[G];exact e) (.inl rfl)),λp=>⟨by rw[G],o⟩,λp q=>by exact aT q⟩
theorem acD{b:Call->Sc}(h:rn ⟨x,.stmts body,sc⟩ a=true) (f:∀ call d,JB W ⟨sc.names,call,d,none,false⟩ body (b call)):gN W ⟨x,.stmts body,sc⟩ (.s a b):=by
 refine ae (Ga h) ?_;clear h;intro g i;exact .s g rfl λcall d j c A l m o G=>f call d c A ⟨l,m,j,λn x k e=>(we (aeK.mp i (x,k) (aeV e)) k (by rw[G];exact e) (.inl rfl)),λp=>⟨by rw[G],o⟩,λp q=>by exact aT q⟩
end
section
variable{W:Wd}{c:Cx W}{A:ae6}{d:Nat}
noncomputable def AB:Prim:=λl d k=>hU l λa=>d0 .no d.st a λA o=>ix .no o λc=>aN .no (and (keysOk c) (aeZ c.length (nat_lit 500))) (k (.hl (ou c)) d)
theorem QB(h:Value.isStrOf x v=true):∃ t,v=.str x t:=by
 induction v using afo with
 |str y t=>exact⟨t,by rw[show y=x from beq_iff_eq.mp h]⟩
 |_=>exact aX h
theorem Ru (h:aU T α N kvs a):keysOk a=true->∀ vs:List ael,vs.length=kvs.length->(∀ (j:Nat) (v:ael),vs[j]?=some v->∃ k x,kvs[j]?=some (k,x)/\(afb prog w).is k v=true)->ah T α N vs (ou a):=
 aU.ind (P:=λkvs a=>keysOk a=true->∀ vs:List ael,vs.length=kvs.length->(∀ (j:Nat) (v:ael),vs[j]?=some v->∃ k x,kvs[j]?=some (k,x)/\(afb prog w).is k v=true)->ah T α N vs (ou a))
  (λA vs c A=>by rw[agn.mp c];exact .nil)
  (fun{x w g i l}m r W d vs c h=>by
   induction vs using aeC with
   |nil=>cases c
   |cons v vs=>
    refine ae (aei.mp d) ?_;clear d;intro b C7;refine be (h 0 v rfl) λk y e q=>?_
    cases aej e
    refine aL (QB q) ?_;clear q;intro t f;subst f;exact .cons (.str t b) (W C7 vs (af0 c) λj v e=>h (j+1) v e)) h
theorem Rv (f:ak c) (q:aP c d A):dR c A (.type "list") AB:=by
 intro qd σ qe qf h b s r u qg R x vals y z qh B;refine iw y z h b λa v C h=>?_
 refine ma R C h b λqi a o ao D q1 g E i h=>?_
 refine Y (l7 h b) ?_;clear h E x;intro F e h;subst e;refine ae (aS h b) ?_;clear h b;intro nC h;refine ae (aei.mp nC) ?_;clear nC;intro G H;refine Y i.inv ?_;clear i;intro kvs j k;refine Y R.fr λqj qk hm=>?_
 refine kJ j ?_;clear j;intro I L M P Q S V;have X:s.heap.DictAt (ajh W.prog W.w) a _ L:=(vt o I (R.get g) M P Q S V);have Z:=k.len0;have hn:F.length<=500:=aer H;refine kdl_call (kdl_dict (knd:=ajh W.prog W.w) (R.hi _ (aeo _ g))) q.handled X (aeE (aeE (agh Z) (aeE hn (by decide))) AS) λh' tk acc c' l m n=>?_
 have p:=Ru (T:=W.kt) (α:=r) (N:=u) (prog:=W.prog) (w:=W.w) k G acc.toList (by rw[aiT];exact n.1) λqa v qb=>n.2 qa v (by rw[←Array.getElem?_toList];exact qb)
 refine ae (R.newList f l (by rw[aiF];exact m) (t:=tk) p) ?_;clear R f l m p;intro e D;obtain⟨N',R',qc,gW⟩:=e
 exact B _ _ _ _ _ _ h R' qc gW
theorem Vy:JP W d (.type "list") AB:=λc c h A=>Rv h A
noncomputable def xO (a b:Ev):Tc:=λc k=>a c λd c=>b c λA c=>ae2 (aN .no (iR c.st (nat_lit 20) d) (aD .no (eE c.st A) λl=>aN .no (gv (iR c.st (nat_lit 20)) l) (join (k true c) (k false c)))) (λt=>k t c) (uD c.st d A)
theorem Vz (f:ak c) (o:aP c d A) (x:afH .In b=false) (z:aE c A a B) (C:aE c A b D):dB c A (.Compare a [.In] [b] pos) (xO B D):=by
 intro F qa y h W s G N E R p qb j;refine ahz ?_ x;refine z F _ y h W s G N E R p _ λH dk tT dn cL bZ h I g L=>?_
 refine C _ _ _ h W _ _ _ _ I (p.step g.kp) _ λM P rh eb ek dK h e i k=>?_
 have l:=L.mono i.ge;induction m:uD P.st H M using aeB with
 |some qc=>
  dsimp only at h;rw [m] at h;exact Au (op:=.In) f o f.g.tok e l k m λtk=>afW (j _ _ _ _ _ h e.toks (g.trans i))
 |none=>
  dsimp only at h;rw [m] at h;refine ae (aS h W) ?_;clear h;intro r h;refine Y (aR h W) ?_;clear h;intro qd t h;refine ae (aS h W) ?_;clear h;intro u h;refine ae (md h W) ?_;clear h W;intro Q S;refine aL (nZ f.g.tok 20 _ r) ?_;clear r;intro T v;refine bU (v.reads e l) ?_;clear v l;intro n V da';obtain⟨as,X⟩:=n;refine aL (Gw (nZ f.g.tok 20) u) ?_;clear f u;intro Z q;have hu:=Ek o;refine bU ((Uo t q).reads e k) ?_;clear t q k;intro n w db';obtain⟨bs,rb⟩:=n;simp only [aid] at w;simp only [aiB] at db';refine SeqAt.in_list_reads rb X w V (by omega) ?_
  induction (Z.any λy=>afS y T) using aen with
  |true=>exact afW (j _ _ _ _ _ Q e.toks (g.trans i))
  |false=>exact afW (j _ _ _ _ _ S e.toks (g.trans i))
theorem Zc (e:afH .In b=false) (f:JE W G a g) (i:JE W G b j):JT W G (.Compare a [.In] [b] pos) (xO g j):=λc A h=>Vz h.hc h.hA e (f c A h) (i c A h)
noncomputable def mL{α e:Type}(f:α->e->Bool) (l:List α):List e->Bool:=aeL (motive:=λc=>List e->Bool) (λr=>r.isEmpty) (λa c d r=>aeC (motive:=λc=>Bool) r false λb r=>and (f a b) (d r)) l
theorem mh{α e:Type}{f:α->e->Bool}{a:α}{l:List α}{r:List e}(h:mL f (a::l) r=true):∃ b g,r=b::g/\f a b=true/\mL f l g=true:=by
 induction r using aeC with
 |nil=>exact aX h
 |cons b r=>exact (gJ b r rfl (aei.mp h))
theorem sW{α a:Type}{f:α->a->Bool}{r:List a}(h:mL f [] r=true):r=[]:=aiv.mp h
noncomputable def mI (π:List Nat) (j i:Nat):Bool:=aD false (nu π j) λc=>aew c i
theorem A8 (h:mI π j i=true):π[j]?=some i:=by
 refine Y (aR h nofun) ?_;clear h;intro c e h;rw[←sM,e,aem h]
noncomputable def mC (π:List Nat) (p q:Nat×Nat):Bool:=and (aew p.1 q.1) (mI π p.2 q.2)
noncomputable def mA1 (π:List Nat) (e:O->O->Bool) (a b:O):Bool:=O.casesOn (motive_1:=λc=>Bool) a (j4 false b true) (λx=>i9 false b λy=>x ==y) (λx=>dU false b λy=>decide (x=y)) (λx=>afM false b λy=>seq x y) (λl=>cF false b λr=>mL e l r) (λl=>lq false b λr=>mL e l r) (λc c=>false)
 (λj=>jg false b λi=>mI π j i) (λx=>qu false b λy=>aew x y) (λf k=>iK false b λd A=>and (aew f d) (aew k A)) (λf x=>vW false b λg y=>and (aew f g) (e x y)) (λi W=>wg false b λj h=>and (aew i j) (mL (mC π) W h)) b.sure (λc=>false)
noncomputable def mA (π:List Nat) (n:Nat):O->O->Bool:=af6 (motive:=λc=>O->O->Bool) (λc c=>false) (λc d=>mA1 π d) n
theorem GQ{π:List Nat}{n c:Nat}{a x:O}(h:mA π n a (.may c x)=true):False:=by
 induction n using aeI with
 |zero=>exact aX h
 |succ n=>induction a using O.casesOn<;>exact aX h
theorem Ag(h:mA π n a b=true):a.sure=true:=by
 induction n using aeI with
 |zero=>exact aX h
 |succ n=>induction a using O.casesOn<;>first|rfl|exact aX h
structure rO(π:List Nat)(α lg:List aez)(N bZ:Led):Prop where
 at_:∀ (j i:Nat)a,π[j]?=some i->α[i]?=some a->lg[j]?=some a
 sub:∀ a∈lg,a∈α
 led:∀ p∈N,p.1∉α->p∈bZ
theorem VR.free (hl:∀ p∈N,p.1∉α->p∈g/\p.1∉j) (m:∀ f k,Eng.below 0 (T.θ f k)=true) (h:VR T α N v av):Eng.below 0 av=true->VR T j g v av:=
 VR.rec (motive_1:=λv av c=>Eng.below 0 av=true->VR T j g v av) (motive_2:=λn l c=>belows 0 l=true->ah T j g n l) (λc=>.none) (λb c=>.bool b) (λi t c=>.int i t) (λt o c=>.str t o) (λd A W s c r b=>.tup (hl _ d A).1 (hl _ d A).2 W s (r (pS▸b))) (λd c r b=>.tupK d (r (pS▸b))) (λd A c r b=>.hl (hl _ d A).1 (hl _ d A).2 (r (zF▸b))) (λe b=>absurd (aer b) (aiP _)) (λa c=>.glob a) (fun{_ f k}_ q b=>.ty (q (m f k))) (λd A c r b=>.cu (hl _ d A).1 (hl _ d A).2 (r b)) (λc c c c b=>absurd b aeY) (λh c=>.bR h) (λd A W c=>.fk (hl _ d A).1 (hl _ d A).2 W) (λc=>.nil) (λc c q r b=>.cons (q (aei.mp b).1) (r (aei.mp b).2)) (λe c c q r b=>.yes e (q (aei.mp b).1) (r (aei.mp b).2)) (λe c r b=>.no e (r (aei.mp b).2)) h
theorem Rw:∀ {r:List (Nat×Nat)}{j:Nat},mL (mC π) l r=true->lk n l=some j->∃ i,lk n r=some i/\π[j]?=some i:=by
 induction l with
 |nil=>exact λf e=>nomatch e
 |cons p l d=>
  intro r j h e;refine aH (mh h) ?_;clear h;intro q g A c W;subst A;refine ae (aei.mp c) ?_;clear c;intro a b;rw[eD]at e ⊢;rw[←aem a];by_cases z:n=p.1
  ·rw[if_pos z]at e ⊢;exact (ay _ rfl (aej e▸A8 b))
  ·rw[if_neg z]at e ⊢;exact d W e
theorem v9 (e:∀ {a b:O}{v:ael},mA π n a b=true->VR T α N v b->VR T f g v a):∀ {r:List O}{vs:List ael},mL (mA π n) l r=true->ah T α N vs r->ah T f g vs l:=by
 induction l with
 |nil=>intro r vs h d;rw[sW h]at d;rw[d.nil_inv];exact .nil
 |cons a l W=>
  intro r vs h d;refine aH (mh h) ?_;clear h;intro b k i A j;subst i;rcases d.wz with⟨_,w,m,rfl,x,y⟩|⟨c,z,rfl,_⟩
  ·exact .cons (e A x) (W j y)
  ·exact (GQ A).elim
theorem tH (F:rO π α E N L) (M:∀ v a,VR T α N v a->ah1 v=true) (P:∀ f k,Eng.below 0 (T.θ f k)=true):∀ {a b:O}{v:ael},mA π n a b=true->VR T α N v b->VR T E L v a:=by
 induction n with
 |zero=>exact λh=>nomatch h
 |succ n C=>
  intro a b v h A;have u:∀ {a},a∉α->a∉E:=λq z=>q (F.sub _ z)
  induction a using O.casesOn with
  |bR=>exact .bR (M _ _ A)
  |none=>
   refine ae (nL h nofun) ?_;intro c u_;subst c;rw[show v=.none from A.inv];exact .none
  |bool x=>
   refine Y (pT h nofun) ?_;clear h;intro y c h;subst c;rw[show v=.bool y from A.inv,beq_iff_eq.mp h];exact .bool _
  |int x=>
   refine Y (jU h nofun) ?_;clear h;intro y c h;subst c;refine aL A.inv ?_;intro t c;subst c;rw[of_decide_eq_true h];exact .int _ _
  |str x=>
   refine Y (gD h nofun) ?_;clear h;intro y c h;subst c;refine Y A.inv ?_;intro t c Q;subst c;rw[gG.mp h];exact .str t Q
  |glob x=>
   refine Y (vu h nofun) ?_;clear h;intro y c h;subst c;rw[show v=.ref y from A.inv,aem h];exact .glob _
  |tup l=>
   refine Y (dP h nofun) ?_;clear h;intro r c h;subst c;rcases A.inv with⟨a,o,D,n,rfl,g,W,w,R,B⟩|⟨a,D,n,sl,rfl,g,B⟩
   ·exact .tup (F.led _ g W) (u W) w R (v9 C h B)
   ·exact .tupK g (v9 C h B)
  |hl l=>
   refine Y (su h nofun) ?_;clear h;intro r c h;subst c;refine gC A.inv ?_;intro a D n c g W B;subst c;exact .hl (F.led _ g W) (u W) (v9 C h B)
  |ref j=>
   refine Y (i3 h nofun) ?_;clear h;intro i c h;subst c;refine Y A.inv ?_;intro a c q;subst c;exact .ref (F.at_ _ _ _ (A8 h) q)
  |ty f k=>
   refine be (jX h nofun) ?_;clear h;intro f' k' c h;subst c;refine ae (aei.mp h) λs m=>?_
   rw[aem s,aem m];exact A.free (λp s m=>⟨F.led p s m,u m⟩) P rfl
  |cu f x=>
   refine be (Ei h nofun) ?_;clear h;intro qa y c h;subst c;refine ae (aei.mp h) λs m=>?_
   refine eJ A.inv ?_;intro a qb c g W w;subst c;rw[aem s];exact .cu (F.led _ g W) (u W) (C m w)
  |bY i aK=>
   refine be (zH h nofun) ?_;clear h;intro j aef c h;subst c;refine ae (aei.mp h) λs m=>?_
   refine O2 A.inv ?_;clear A;intro a o d c;subst c;intro g W w S V X Z e4 e5 e6 pv G;obtain⟨c',oc,D,t,g1,g2,H,g4⟩:=pv;rw[aem s];refine .bY (F.led _ g W) (u W) w (r9 S V X Z e4 e5 e6 (pR c' oc D t g1 (F.led _ g2 H) (u H) g4) (λn j e=>?_))
   refine Y (Rw m e) ?_;clear m e;intro i' I z2;refine cj (G n i' I) ?_;clear G I;intro x k a w1 w2 w3;exact⟨x,k,a,w1,w2,F.at_ _ _ _ z2 w3⟩
  |may Cy u2_=>exact aX h
  |fk Cy=>exact aX h
theorem TC:∀ {r:List O},mL (mA π n) l r=true->ae1 l=true:=by
 induction l with
 |nil=>exact λe=>rfl
 |cons a l c=> intro r h;refine aH (mh h) ?_;clear h;intro b f d A W;subst d;exact aei.mpr ⟨Ag A,c W⟩
section
variable{T:KT}{π:List Nat}{α lg:List aez}{N bZ:Led}
theorem GR (F:rO π α lg N bZ) (b:∀ v a,VR T α N v a->ah1 v=true) (e:∀ f k,Eng.below 0 (T.θ f k)=true) (h:mL (mA π n) l r=true) (g:ah T α N vs r):ah T lg bZ vs l:=v9 (tH F b e) h g
noncomputable def mE (π:List Nat) (n:Nat) (l r:List (Str×O)):Bool:=mL (λp q=>and (seq p.1 q.1) (mA π n p.2 q.2)) l r
theorem Xa (F:rO π α lg N bZ) (b:∀ v a,VR T α N v a->ah1 v=true) (e:∀ f k,Eng.below 0 (T.θ f k)=true):∀ {r:List (Str×O)}{vs:List (Str×ael)},mE π n l r=true->aU T α N vs r->aU T lg bZ vs l:=by
 induction l with
 |nil=>intro r vs h c;rw[sW h]at c;rw[c.nil_inv];exact .nil
 |cons p l W=> intro r vs h c;refine aH (mh h) ?_;clear h;intro q s d A g;subst d;refine ae (aei.mp A) ?_;clear A;intro i j;refine aH (aU.ck (x:=q.1) (av:=q.2) c) ?_;clear c;intro v w d m o;subst d;rw[←gG.mp i];exact .cons (tH F b e j m) (W g o)
theorem Xb (F:rO π α lg N bZ) (b:∀ v a,VR T α N v a->ah1 v=true) (e:∀ f k,Eng.below 0 (T.θ f k)=true):∀ {r:List (Str×O)}{vs:List DictEntry},mE π n l r=true->bM P T α N vs r->bM P T lg bZ vs l:=by
 induction l with
 |nil=>intro r vs h c;rw[sW h]at c;rw[c.nil_inv];exact .nil
 |cons p l W=> intro r vs h c;refine aH (mh h) ?_;clear h;intro q s d A g;subst d;refine ae (aei.mp A) ?_;clear A;intro i j;refine cj (bM.ck (x:=q.1) (av:=q.2) c) ?_;clear c;intro t v w d m o;subst d;rw[←gG.mp i];exact .cons (tH F b e j m) (W g o)
end
noncomputable def Zd (π:List Nat) (j:Nat):Bool:=ais (motive:=λc=>Bool) j false λk=>aD false (nu π k) λi=>mI π (k+1) (afk i)
noncomputable def mO (π:List Nat) (n:Nat) (j:Nat) (e o:AO):Bool:=AO.casesOn (motive:=λc=>Bool) e (λl=>gF false o λr=>mL (mA π n) l r) (λl=>ix false o λr=>mE π n l r) (λC l=>mj false o λD r=>and (and (aew C D) (mE π n l r)) (Zd π j)) (Al false o true)
 (λv=>aD false v λa=>qn false o λw=>aD false w λb=>mA π n a b) (λc=>sF false o λc=>true) true (λc c=>false)
noncomputable def lU (π:List Nat) (n:Nat) (st:Tr) (l:List AO):Nat->Bool:=aeL (motive:=λc=>Nat->Bool) (λc=>true) (λd c A j=>aD false (nu π j) λi=>aD false (st.get i) λo=>and (mO π n j d o) (A (afk j))) l
theorem AD{π:List Nat}{st:Tr}{l:List AO}:∀ {j:Nat},lU π n st l j=true->∀ (k:Nat) b,l[k]?=some b->∃ i o,π[j+k]?=some i/\st.get i=some o/\mO π n (j+k) b o=true:=by
 induction l with
 |nil=>exact λg k b e=>nomatch e
 |cons a l c=> intro j h k b e;refine Y (aR h nofun) ?_;clear h;intro i d h;refine Y (aR h nofun) ?_;clear h;intro o A h;refine ae (aei.mp h) ?_;clear h;intro W f;induction k using aeI with
  |zero=>exact⟨i,o,sM.symm.trans d,A,aej e▸W⟩
  |succ k=>rw[show j+(k+1)=j+1+k from (ahe _ _).symm];exact c f k b e
noncomputable def gn (l:List AO)(loc:List (Nat×O)):LS:=⟨loc,[],(Aa ⟨[],[],lK,nat_lit 0,nat_lit 0,[]⟩ l).st,l.length,l.length,[]⟩
theorem VR.Ml (h:VR T α N v av):(∀ a,v≠.ref a)->∀ {g i f},VR T g i f av->∀ {j k},VR T j k f av:=
 VR.rec (motive_1:=λv av c=>(∀ a,v≠.ref a)->∀ {g i f},VR T g i f av->∀ {j k},VR T j k f av) (motive_2:=λc c c=>True) (λc c c f h c c=>(show f=.none from h.inv)▸.none) (λb c c c f h c c=>(show f=.bool b from h.inv)▸.bool b) (λc c c c c c h c c=>h.inv.elim λt e=>e▸.int _ t) (λc c c c c c h c c=>h.inv.elim λt e=>e.1▸.str t e.2) (λc c c c c c n=>absurd rfl (n _)) (λc c c n=>absurd rfl (n _)) (λc c c c n=>absurd rfl (n _)) (λc n=>absurd rfl (n _)) (λc n=>absurd rfl (n _)) (λc d n c c c h c c=>.ty (d n h.inv)) (λc c c c n=>absurd rfl (n _)) (λc c c c n=>absurd rfl (n _)) (λc c c c c h c c=>.bR h.inv) (λc c c n=>absurd rfl (n _)) trivial (λc c c c=>trivial) (λc c c c c=>trivial) (λc c c=>trivial) h
noncomputable def rP (v:ael) (a:O):O:=afo (motive:=λc=>O) v a a a (λc=>a) (λc c=>a) (λc c=>a) (λc c=>a) (λc c=>a) (λc=>a) (λc=>a) .glob
theorem GS(v:ael):(∃ x,v=.ref x)\/((∀ x,v≠.ref x)/\∀ a,rP v a=a):=by induction v using afo with
 |ref x=>exact .inl ⟨x,rfl⟩
 |_=>exact .inr ⟨nofun,λc=>rfl⟩
theorem Xc (h:VR T α N v a):VR T b f v (rP v a):=by
 rcases GS v with⟨x,rfl⟩|⟨n,e⟩
 ·exact .glob _
 ·rw[e];exact h.Ml n h
theorem Xd (h:VR T α N v a)(h':VR T j k b (rP v a))(f:VR T g i v a):VR T g i b a:=by
 rcases GS v with⟨x,rfl⟩|⟨n,e⟩
 ·rw[show b=.ref x from h'.inv];exact f
 ·exact h.Ml n (e a▸h')
theorem Rx (h:l.length<=1024):Wf 10 (gn l loc).st/\∀ i,i<l.length->(gn l loc).st.get i=l[i]?:=by
 obtain ⟨_,_,_,_,_,w,g⟩:=ze l ⟨[],[],lK,0,0,[]⟩ yp ((ahh l.length).symm▸h);exact ⟨w,λi c=>(g i ((ahh l.length).symm▸c)).trans (if_neg (aiP _))⟩
theorem GU{f:Nat->O->O}:lk n (l.map λp=>(p.1,f p.1 p.2))=(lk n l).map (f n):=by
 induction l with
 |nil=>rfl
 |cons p l c=>
  rw[aeU,eD,eD];by_cases q:n=p.1
  ·rw[if_pos q,if_pos q,q];rfl
  ·rw[if_neg q,if_neg q];exact c
theorem QC{m:Str->Option ael}(h:el W sc loc α N m):∃ q:List (Nat×O),
  (∀ b g,el W sc q b g m)/\∀ b g i,el W sc q b g i->(sc.names.map (·.1)).Nodup->∀ {j l},(∀ v a,VR W.kt α N v a->VR W.kt j l v a)->el W sc loc j l i:=by
 have r:∀ (n:Nat) x k v,sc.names[n]?=some (x,k)->m x=some v->aD agl sc.names[n]? (λp:Str×afv=>(m p.1).getD .none)=v:=λn x k v B C=>by
  rw[B];exact congrArg (·.getD .none) C
 refine (ay (loc.map λp=>(p.1,rP (aD agl sc.names[p.1]? λp:Str×afv=>(m p.1).getD .none) p.2)) (λb g n w e=>?_) (λb g i s H j l D n v e=>?_))
 ·rw[GU (f:=λn=>rP (aD agl sc.names[n]? λp:Str×afv=>(m p.1).getD .none))]at e
  refine Y (af8.mp e) ?_;intro v t o;subst o;refine cj (h n v t) ?_;clear t;intro x k u c d A;refine (dy x k u c d ?_);rw[r n x k u c d];exact Xc A
 ·refine cj (h n v e) ?_;clear h;intro x k u c d A;refine cj (s n _ ((GU (f:=λn=>rP (aD agl sc.names[n]? λp:Str×afv=>(m p.1).getD .none))).trans (congrArg (Option.map _) e))) ?_;clear s e;intro I L E y F z
  refine ae (ae8 (aej (c.symm.trans y))) ?_;clear y;intro o G;subst o;subst G;rw[r n x k u c d]at z;exact (dy x k E c F (Xd A z (D _ _ A)))
noncomputable def lh:O->Bool:=O.rec (motive_1:=λc=>Bool) (motive_2:=λc=>Bool)
 true (λc=>true) (λc=>true) (λc=>true) (λc d=>d) (λc d=>d) (λc c d=>d) (λc=>false) (λc=>false) (λc c=>false) (λc c d=>false) (λc c=>false) false (λc=>false)
 true (λc c a b=>and a b)
noncomputable def kX (l:List O):Bool:=O.rec_1 (motive_1:=λc=>Bool) (motive_2:=λc=>Bool)
 true (λc=>true) (λc=>true) (λc=>true) (λc d=>d) (λc d=>d) (λc c d=>d) (λc=>false) (λc=>false) (λc c=>false) (λc c d=>false) (λc c=>false) false (λc=>false)
 true (λc c a b=>and a b) l
theorem VR.data (hl:∀ p∈N,p.1∉α->p∈f/\p.1∉g) (h:VR T α N v av):lh av=true->VR T g f v av:=
 VR.rec (motive_1:=λv av c=>lh av=true->VR T g f v av) (motive_2:=λj W c=>kX W=true->ah T g f j W) (λc=>.none) (λb c=>.bool b) (λi t c=>.int i t) (λt k c=>.str t k) (λd A l m c r b=>.tup (hl _ d A).1 (hl _ d A).2 l m (r b)) (λd c r b=>.tupK d (r b)) (λd A c r b=>.hl (hl _ d A).1 (hl _ d A).2 (r b)) (λe b=>absurd b aeY) (λa b=>absurd b aeY) (λc c b=>absurd b aeY) (λc c c c b=>absurd b aeY) (λc c c c b=>absurd b aeY) (λc b=>absurd b aeY) (λc c c b=>absurd b aeY) (λc=>.nil) (λc c q r b=>.cons (q (aei.mp b).1) (r (aei.mp b).2)) (λe c c q r b=>.yes e (q (aei.mp b).1) (r (aei.mp b).2)) (λe c r b=>.no e (r (aei.mp b).2)) h
theorem ah.data (a:∀ p∈N,p.1∉α->p∈f/\p.1∉g) (h:ah T α N v av):kX av=true->ah T g f v av:=
 ah.ind (P:=λA d=>kX d=true->ah T g f A d) (λc=>.nil) (λq c r b=>.cons (q.data a (aei.mp b).1) (r (aei.mp b).2)) (λe q c r b=>.yes e (q.data a (aei.mp b).1) (r (aei.mp b).2)) (λe c r b=>.no e (r (aei.mp b).2)) h
theorem Ze (F:rO π α y N B) (own:∀ p∈N,p.1∈y->p∈B) (m:∀ v a,VR W.kt α N v a->ah1 v=true) (s:∀ f k,Eng.below 0 (W.kt.θ f k)=true) (G:π[j]?=some i) (h:mO π 8 j E o=true) (g:OR W α N i b o):OR W y B j b E:=by
 induction E using AO.casesOn with
 |any=>exact .any
 |own=>exact .own
 |src k=>
  refine Y (vv h nofun) ?_;intro H c H;subst c;refine sb g.inv ?_;intro a S t u n c d A;subst c;exact .src d A
 |tab P q=>exact aX h
 |list l=>
  refine Y (pL h nofun) ?_;clear h;intro r c h;subst c;refine be g.inv ?_;intro T n c r;subst c;exact .list (GR F m s h r)
 |dict l=>
  refine Y (l7 h nofun) ?_;clear h;intro r c h;subst c;refine Y g.inv λV x r=>?_
  exact .dict x (Xa F m s h r)
 |obj C l=>
  refine be (Ej h nofun) ?_;clear h;intro D r c h;subst c;refine ae (aei.mp h) λh e=>?_
  refine ae (aei.mp h) λd A=>?_
  refine ir g.inv ?_;intro X Z es n c I L M Q;subst c;rw[aem d];induction j using aeI with
  |zero=>exact aX e
  |succ k=>
   refine Y (aR (show aD false (nu π k) (λi=>mI π (k+1) (afk i))=true from e) nofun) λi' R e=>?_
   obtain rfl:=af0 (I.symm.trans (aej (G.symm.trans (A8 e))));have z:=F.at_ _ _ _ (sM.symm.trans R) L;exact .obj rfl z (own _ M (aeV z)) (Xb F m s A Q)
 |cell v=>
  refine Y (aR (show aD false v (λa=>qn false o λw=>aD false w λb=>mA π 8 a b)=true from h) nofun) ?_;clear h;intro a c d;subst c
  refine Y (vp d nofun) ?_;clear d;intro w c A;subst c;refine Y (aR A nofun) ?_;clear A;intro a' c e;subst c;refine Y g.inv λu x r=>?_
  exact .cell x (tH F m s e r)
theorem PE{α:Type}{p:α->Bool}{l:List α}:(l.filter p++l.filter λx=>!p x).Perm l:=by
 induction l with
 |nil=>exact .refl _
 |cons a l c=>
  induction h:p a using aen with
  |true=>
   rw[aih h,aii (p:=λx=>!p x) (by rw[h];exact aeY)]
   exact .cons _ c
  |false=>
   rw[aii (by rw[h];exact aeY),aih (p:=λx=>!p x) (by rw[h];rfl)]
   exact List.perm_middle.trans (.cons _ c)
theorem NR.none(a:c.comp=none):NR c loc α N m↔el W c.scope loc α N m:=by unfold NR;rw[a]
theorem EF{call:Call}(ks:dw W d call) (hc:ak c) (hA:aP c d A) (R:SR c σ s α N) (hπ:π.Nodup) (bN:∀ i∈π,i<σ.n) (hlen:π.length=l₀.length) (Mm:l₀.length<=1024) (er:lU π 8 σ.st l₀ 0=true)
  (acE:∀ (j i k:Nat),l₀[j]?=some (.src k)->π[j]?=some i->i∉σ.mark) (hf:mA π 16 f₀ f=true) (HP:mL (mA π 16) args₀ args=true){P:O->Prop}(Zf:y₀≠.no) (Zg:∀ C,y₀≠.exc C)
  (hK:∀ a bu,K₀ a bu=y₀->aeZ l₀.length bu.lo=true/\∃ r,fV l₀.length a bu=.ok r/\lh r=true/\P r) (uf:∀ loc,call f₀ args₀ (gn l₀ loc) K₀=y₀)
  (uU:VR W.kt α N fv f) (Zh:ah W.kt α N vals args){Q:ael->aep->Prop}{E}(hQ:∀ r v s' y,P r->SR c σ s' α y->bh σ α N σ α y->VR W.kt α y v r->Q v s'):WP W A (afl fv vals) Q E s:=by
 classical
 have ht:∀ f k,Eng.below 0 (W.kt.θ f k)=true:=λf k=>hc.g.Bo f k 0
 have hh:∀ v a,VR W.kt α N v a->ah1 v=true:=λv a h=>En hc R h
 have BU:∀ i∈π,i<α.length:=λi h=>by rw [R.len];exact bN i h
 let at_:Nat->Addr:=λi=>(α[i]?).getD 0
 have yG:∀ i a,α[i]?=some a->at_ i=a:=λi a e=>by show (α[i]?).getD 0=a;rw [e];rfl
 let G:List Addr:=π.map at_
 have sub:∀ a∈G,a∈α:=λa h=>by
  refine Y (aeP.mp h) ?_;intro i S H;subst H
  have e:α[i]?=some (α[i]'(BU i S)):=aeW _
  rw [yG i _ e]
  exact List.getElem_mem _
 have ro:∀ (j i:Nat) a,π[j]?=some i->α[i]?=some a->G[j]?=some a:=λj i a u I=>by
  show (π.map at_)[j]?=some a
  rw [aga,u]
  exact congrArg some (yG i a I)
 have acF:G.Nodup:=by
  refine List.pairwise_map.mpr (hπ.imp_of_mem fun{i j}S hj eT e=>eT ?_)
  have ei:α[i]?=some (α[i]'(BU i S)):=aeW _
  have ej:α[j]?=some (α[j]'(BU j hj)):=aeW _
  rw [yG i _ ei,yG j _ ej] at e
  rw [←e] at ej
  exact hH R ei ej
 let pr:aez×Obj->Bool:=λp=>decide (p.1∉α\/p.1∈G)
 let X:=N.filter pr
 let D:=N.filter λp=>!pr p
 have perm:(X++D).Perm N:=PE
 have led:∀ p∈N,p.1∉α->p∈X:=λp h h'=>ah0.mpr ⟨h,decide_eq_true (.inl h')⟩
 have own:∀ p∈N,p.1∈G->p∈X:=λp h h'=>ah0.mpr ⟨h,decide_eq_true (.inr h')⟩
 have hM:∀ p∈D,p∈N/\p.1∈α/\p.1∉G:=λp h=>by
  refine ae (ah0.mp h) λu I=>?_
  have h3:pr p=false:=(aeT _).mp I
  have h4:=of_decide_eq_false h3
  exact (bH u (Classical.not_not.mp λz=>h4 (.inl z)) (λz=>h4 (.inr z)))
 have qb:rO π α G N X:=⟨ro,sub,led⟩
 let T:=c.with (D++c.ax)
 have wK:ak T:=hc.with λp h=>aeu _ h
 have Zi:aP T d A:=hA.with _
 have Zj:((X++(D++c.ax)).map (·.1)).Perm ((N++c.ax).map (·.1)):=by
  rw [←afP]
  exact (perm.append_right _).map _
 have Mn:∀ p,p∈X++(D++c.ax)↔p∈N++c.ax:=λp=>by
  rw [←afP];exact (perm.append_right c.ax).mem_iff
 refine ae (Rx (l:=l₀) (loc:=[]) Mm) λhw hg=>?_
 refine Y R.fr λqe Fm hm=>?_
 obtain ⟨Z,n1,n2⟩:∃ Z:List (Nat×O),NR T Z G X qe/\∀ bG y m',NR T Z bG y m'->∀ {ko},(∀ v a,VR W.kt α N v a->VR W.kt α ko v a)->NR c σ.loc α ko m':=by
  induction kx:c.comp using aeB with
  |none=>
   have eA:=(NR.none kx).mp hm
   refine Y (QC eA) λZ p1 p2=>?_
   exact ⟨Z,(NR.none (c:=T) kx).mpr (p1 _ _),λbG y m' h ko tr=>(NR.none kx).mpr (p2 _ _ _ ((NR.none (c:=T) kx).mp h) hc.cW tr)⟩
  |some pp=>
   obtain ⟨C,mf⟩:=pp
   have yH:=hm
   unfold NR at yH
   rw [kx] at yH
   refine kN yH ?_;clear yH;intro e1 L m₂ e2 e3 e4
   refine (ay [] ?_ (λbG y m' h ko tr=>?_))
   ·unfold NR
    rw [show T.comp=some (C,mf) from kx]
    exact (nO e1 L m₂ (aeu _ e2) e3 (λn v e=>by exact aT e))
   ·unfold NR at h ⊢
    rw [show T.comp=some (C,mf) from kx] at h
    rw [kx]
    refine (nO h.1 L m₂ e2 e3 (λn v e=>?_))
    refine cj (e4 n v e) λqf k val B z2 V=>?_
    exact (dy qf k val B z2 (tr _ _ V))
 have HQ:SR T (gn l₀ Z) s G X:=by
  refine ⟨(ay qe Fm n1),λg g e=>(by exact aT e),λp x=>R.news p ((Mn p).mp x),Zj.nodup_iff.mpr R.nodup,acF,λj L hj e=>?_,λa h=>?_,λp x=>R.hi p ((Mn p).mp x),hw,Mm,?_,aeD _,λg h=>(by cases h),R.gens,R.os,R.aZ⟩
  ·have yI:j<l₀.length:=hj
   have e':l₀[j]?=some L:=(hg j yI).symm.trans e
   refine aH (AD er j L e') λi o' m t F=>?_
   rw [ahh] at m F
   refine aH (R.obj i o' (bN i (aeV m)) t) λa b B z2 V=>?_
   have za:=ro j i a m B
   exact (bB a b za (own _ z2 (aeV za)) (Ze qb own hh ht m F V))
  ·refine aL (R.mem (sub a h)) ?_;clear sub;intro b hb
   exact aeF (f:=λp:aez×Obj=>p.1) (own _ hb h)
  ·show (π.map at_).length=l₀.length
   rw [ahr];exact hlen
 refine ks T A wK Zi f₀ args₀ (gn l₀ Z) _ y₀ (uf Z) Zf s G X E HQ (λC e bu s' bG y q=>absurd q (Zg C)) fv vals (tH qb hh ht hf uU) (GR qb hh ht HP Zh) (TC HP) Q λa bu v s' bG y hk M qa hv=>?_
 refine V2 (hK a bu hk) ?_;clear hK hk;intro eU r uS hr hP
 have Mo:=aer eU
 have gW:=si wK HQ M qa hv uS
 have BV:=qa.ge.pre
 have at0:∀ (j i:Nat) a,π[j]?=some i->α[i]?=some a->j<l₀.length:=λj i a u g=>by rw [←hlen];exact (ae4.mp u).1
 have wY:∀ (j i k:Nat),l₀[j]?=some (.src k)->π[j]?=some i->∃ k',σ.st.get i=some (.src k'):=λj i k u I=>by
  refine aH (AD er j _ u) λi' o' m t F=>?_
  rw [ahh,I] at m
  have H:=aej m;subst i'
  refine Y (vv F nofun) ?_;intro k' H g;subst H
  exact ⟨k',t⟩
 have qR:∀ p∈N,(∀ (j i k:Nat),l₀[j]?=some (AO.src k)->π[j]?=some i->α[i]?=some p.1->False)->p∈y++D:=λp x hs=>by
  rcases aeQ.mp (perm.mem_iff.mpr x) with q|q
  ·refine aeo _ ?_
   by_cases z:p.1∈G
   ·refine aL (ahC.mp z) λj hj=>?_
    have pB:j<l₀.length:=by
     have:=(ae4.mp hj).1
     rw [show G.length=l₀.length by show (π.map at_).length=_;rw [ahr];exact hlen] at this
     exact this
    refine qa.obs j p.1 p.2 (aet pB Mo) hj q λb fb e=>?_
    have e':l₀[j]?=some b:=(hg j pB).symm.trans e
    refine aH (AD er j _ e') ?_;clear er;intro i o' m t F
    rw [ahh] at m
    have S:=bN i (aeV m)
    refine aH (R.obj i o' S t) λa' b' B z2 V=>?_
    have za:=ro j i a' m B
    rw [hj] at za
    have H:=aej za;clear za;subst a'
    induction b using AO.casesOn<;>try exact aX fb
    ·exact hs j i _ e' m B
    ·exact aX F
   ·exact qa.ge.keep p q z
  ·exact aeu _ q
 have keep:∀ p∈N,p.1∉α->p∈y++D:=λp x hn=>qR p x λj i k g g e=>hn (aeV e)
 have HR:∀ p∈N,(∀ a qc b qd n,p.2≠aeG #[.int a qc,.int b qd] n)->p∈y++D:=λp x hn=>qR p x λj i k u I ha=>by
  refine aL (wY j i k u I) λk' e=>?_
  refine aH (R.obj i _ (bN i (aeV I)) e) ?_;clear bN;intro a' b' B z2 V
  rw [ha] at B
  have H:=aej B;clear B;subst a'
  have m:=R.get (a:=p.1) (o:=p.2) x
  rw [R.get z2] at m
  refine RQ V.inv λg g g g g e g=>?_
  exact hn _ _ _ _ _ ((aej m).symm.trans e)
 have BW:((y++(D++c.ax)).map (·.1)).Nodup:=M.nodup
 have xP:(((y++D)++c.ax).map (·.1)).Nodup:=by rw [afP];exact BW
 have ge:Ge α N α (y++D):=⟨afJ _,λp h h'=>keep p h h',λg h=>.inl h,λP ps h=>⟨ps,HR _ h λa qc b qd n e=>by cases e⟩⟩
 have step:bh σ α N σ α (y++D):=⟨⟨ge,aeD _,λg g=>rfl,aeD _,rfl,λi a L g u h nt=>qR _ h λj i' k m t F=>by
  obtain rfl:=hH R u F
  refine aL (wY j i k m t) λk' e=>?_
  exact nt _ rfl e,λi S=>⟨rfl,λa L u h=>qR _ h λj i' k m t F=>by
  obtain rfl:=hH R u F
  exact acE j i k m t S⟩⟩,rfl⟩
 refine Y M.fr λm' Fm' eA=>?_
 have kd:bu.loc=Z:=qa.loc
 rw [kd] at eA
 have Rf:SR c σ s' α (y++D):=by
  refine ⟨(ay m' Fm' (n2 _ _ _ eA λv a h=>h.mono ge)),R.aK,λp x=>M.news p (by rw [afP] at x;exact x),xP,R.inj,λi L S e=>?_,λa h=>?_,λp x=>M.hi p (by rw [afP] at x;exact x),R.wf,R.bD,R.len,R.low,R.bt,M.gens,M.os,M.aZ⟩
  ·refine aH (R.obj i L S e) ?_;clear S;intro a b B z2 V
   by_cases hz:∃ (j k:Nat),l₀[j]?=some (AO.src k)/\π[j]?=some i
   ·refine be hz ?_;clear hz;intro j k m t
    have pB:=at0 j i a t B
    refine aL (wY j i k m t) ?_;clear wY;intro k' e'
    rw [e] at e'
    have H:=aej e';clear e';subst L
    have yI:bu.st.get j=some (.src k):=(qa.same j (aet pB Mo)).trans ((hg j pB).trans m)
    refine aH (M.obj j _ (aet pB qa.n) yI) ?_;clear pB qa yI;intro a' b' w1 w2 w3
    have w4:=jd BV w1 (vD (ro j i a t B))
    rw [ro j i a t B] at w4
    have H:=aej w4;clear w4;subst a'
    refine sb w3.inv ?_;clear w3;intro g g g g g H u I;subst H
    exact (bB a _ B (aeo _ w2) (.src u I))
   ·refine (bB a b B (qR _ z2 λj i' k m t F=>?_) ?_)
    ·obtain rfl:=hH R B F
     exact hz (gJ j k m t)
    ·refine V.wh ge λhx j' d L h5 h6 e4=>?_
     refine eZ hx ?_;clear hx;intro C es H;subst H
     refine ir V.inv ?_;clear V;intro j2 d2 es2 n2 g e5 h7 h8 g
     obtain rfl:=af0 (e4.symm.trans e5)
     obtain rfl:=aej (h5.symm.trans h7)
     rw [R.uniq h6 h8]
     exact HR _ h8 λa qc b qd n e=>absurd (congrArg Obj.cls e) (by show ¬ (agF "dict" =agF "list");decide)
  ·by_cases z:a∈G
   ·refine Y (aeP.mp (M.all a (BV.subset z))) ?_;clear M BV;intro p x e
    exact aeP.mpr (ay p (aeo _ x) e)
   ·refine aL (R.mem h) ?_;clear h;intro b hb
    exact aeF (f:=λp:aez×Obj=>p.1) (qR _ hb λj i k g t F=>z (aeV (ro j i a t F)))
 refine hQ r v s' _ hP Rf step (gW.data (λp u I=>⟨aeo _ u,λz=>?_⟩) hr)
 refine aL (R.mem z) ?_;clear R;intro b hb
 rcases aeQ.mp (perm.mem_iff.mpr hb) with q|q
 ·refine ae (ah0.mp q) λg t=>?_
  rcases of_decide_eq_true t with w|w
  ·exact w z
  ·exact I w
 ·rw [aeX] at BW
  exact absurd rfl ((ae7.mp BW).2.2 _ (aeF (f:=λp:aez×Obj=>p.1) u) _ (show p.1∈(D++c.ax).map (·.1) from aeP.mpr (ay (p.1,b) (aeo _ q) rfl)))
noncomputable def A9 (l:List AO):Bool:=aeL true (λo c d=>sF d o λc=>false) l
theorem TF:A9 l=true->∀ (j k:Nat),l[j]?≠some (.src k):=by
 induction l with
 |nil=>exact λd j k e=>nomatch e
 |cons o l c=> intro h j k e;induction j using aeI with
  |zero=>have A:=aej e;subst o;exact aX h
  |succ j=>exact c (by induction o using AO.casesOn<;>first|exact h|exact aX h) j k e
theorem Ry{call:Call}(n:dw W d call) (o:ak c) (p:aP c d A) (R:SR c σ s α N) (q:π.Nodup) (t:∀ i∈π,i<σ.n) (u:π.length=l₀.length) (w:l₀.length<=1024) (x:lU π 8 σ.st l₀ 0=true)
  (y:mA π 16 f₀ f=true) (z:mL (mA π 16) args₀ args=true) (B:lh r=true) (D:∀ loc,call f₀ args₀ (gn l₀ loc) (fW l₀.length)=.ok r)
  (F:VR W.kt α N G f) (H:ah W.kt α N vals args){Q:ael->aep->Prop}{E}(I:∀ v l b,SR c σ l α b->bh σ α N σ α b->VR W.kt α b v r->Q v l) (L:A9 l₀=true:=by rfl):WP W A (afl G vals) Q E s:=
 EF n o p R q t u w x (λj i k e M M=>TF L j k e) y z (K₀:=fW l₀.length) (P:=λa=>a=r) (y₀:=.ok r) (by intro h;contradiction) (λC h=>by contradiction) (λa m h=>by
  refine ae (aS (show aN .no (aeZ l₀.length m.lo) (fV l₀.length a m)=.ok r from h) nofun) λS T=>?_
  exact (Gn S r T B rfl)) D F H λX v l b e V g h=>I v l b V g (e▸h)
noncomputable def w6 (a b:Ev):Ev:=λc k=>a c λx c=>b c λy c=>dU .no x λi=>dU .no y λj=>k (.int (i-j)) c
theorem Fi (g:aE c A a l) (m:aE c A b n):aE c A (.BinOp a .Sub b pos) (w6 l n):=by
 intro o k y h d s p N E R W Q q;refine wpAny_BinOp ?_;refine g o _ y h d s p N E R W _ λB C D F G H h r e v=>?_
 refine m _ _ _ h d _ _ _ _ r (W.step e.kp) _ λI L M P S T h w f x=>?_
 refine i4 (v.mono f.ge) h d λi t z h=>i4 x h d λj u z h=>?_
 exact sub_int' (q _ _ _ _ _ _ h w.toks (e.trans f) (.int _ _))
theorem Zk (e:JE W G a f) (g:JE W G b i):JE W G (.BinOp a .Sub b pos) (w6 f i):=λc A h=>Fi (e c A h) (g c A h)
noncomputable def acG:Prim:=λl c k=>hU l λa=>dU .no a λi=>k (.int i) c
theorem VA:dR c A (.type "int") acG:=by
 intro l g k y h d s j N E R m n W b Q e;refine iw W b h d λa v f h=>i4 f h d λi t o h=>?_
 exact call_int_int (e _ _ _ _ _ _ h R .refl (.int _ _))
noncomputable def eG(p:Prop)(x:Rs):Rs:=haveI:=ahl p;if p then x else .no
theorem eg{p:Prop}(h:eG p x=y) (a:y≠.no):p/\x=y:=by
 haveI:=ahl p;by_cases q:p
 ·exact⟨q,(if_pos q).symm.trans h⟩
 ·exact bO ((if_neg q).symm.trans h) a
theorem eC{p:Prop}(h:p):eG p x=x:=if_pos h
noncomputable def br (σ:LS) (x:Int):Ev:=λc k=>eG (c=σ) (k (.int x) σ)
theorem fB:br σ x σ k=k (.int x) σ:=eC rfl
theorem ic (h:aE c A e a) (b:∀ k,a σ k=k (.int x) σ):aE c A e (br σ x):=by
 intro j k y q d s W N E R f Q g;refine ae (eg q d) ?_;clear q;intro i q;subst i;exact h _ k y ((b k).trans q) d s W N E R f Q g
theorem tI (j:ak c) (w:∀ {s:aep}{t u:Tok}{Q:ael->aep->Prop}{E:ael->aep->Prop},s.heap.NoLimit->s.heap.NoSeer->Q (.int z s.toks) {s with toks:=s.toks+1}->WP W A (binaryOp op (.int x t) (.int y u)) Q E s) (B:aE c A a (br σ x)) (C:aE c A b (br σ y)):aE c A (.BinOp a op b pos) (br σ z):=by
 intro l k g q f s D N E R m Q G;refine ae (eg q f) ?_;clear q;intro d q;subst d;refine wpAny_BinOp ?_;refine B l (λa i=>eG (a=.int x/\i=l) g) g (fB.trans (eC ⟨rfl,rfl⟩)) f s D N E R m _ λL i M P S V h H n o=>?_
 refine ae (eg h f) λd e=>?_;obtain ⟨rfl,rfl⟩:=d
 refine C i (λa p=>eG (a=.int y/\p=i) g) g (fB.trans (eC ⟨rfl,rfl⟩)) f _ _ _ _ H (m.step n.kp) _ λX p Z eb ek dK h r I v=>?_
 refine ae (eg h f) ?_;clear h f;intro d e;obtain ⟨rfl,rfl⟩:=d;refine aL o.inv ?_;clear o;intro t d;subst d;refine aL v.inv ?_;clear v;intro u d;subst d;refine Y r.fr λe F e=>?_
 refine gH j.top λe e e e T=>?_
 exact w (j.lim.keeps F.keep) (T.seer.keeps F.keep) (G _ _ _ _ _ _ q r.toks (n.trans I) (.int _ _))
theorem w7 (e:ak c) (f:aE c A a (br σ x)) (g:aE c A b (br σ y)):aE c A (.BinOp a .Add b pos) (br σ (x+y)):=tI e (op:=.Add) (z:=x+y) (λd d h=>ajQ (a:=x) (b:=y) h) f g
theorem qS (e:ak c) (f:y≠0) (g:aE c A a (br σ x)) (i:aE c A b (br σ y)):aE c A (.BinOp a .Mod b pos) (br σ (x.fmod y)):=tI e (op:=.Mod) (z:=x.fmod y) (λd d h=>PyProof.Rows.mod_int (a:=x) (b:=y) f h) g i
theorem HS (f:ak c) (i:aP c d A) (j:c.comp=none) (k:c.scope.isGenerator=false) (m:c.scope.isCoroutine=false) (n:y≠0) (o:aE c A a (br σ x)) (p:aE c A b (br σ y)):aE c A (.BinOp a .FloorDiv b pos) (br σ (x.fdiv y)):=
 tI f (op:=.FloorDiv) (z:=x.fdiv y) (fun{s t u Q E}q r h=>floordiv_int (a:=x) (b:=y) n h (.inr (PySem.PylongRoom.of q (agg (ag8 (aeE (ae0 _ _) i.depth) 100) (by decide)) (by
  refine gH f.top λg g g g T=>?_
  have e:=f.uz j;exact PySem.SeerAt.of (M:=aeR W.prog W.w) (A:=A) (env:=c.bF) (l:=c.outer) r T.tree i.frames (e▸k) (e▸m) (e▸f.qC) (e▸f.iE))))) o p
theorem oz (e:ak c) (f:IntMulOk x y) (g:aE c A a (br σ x)) (i:aE c A b (br σ y)):aE c A (.BinOp a .Mult b pos) (br σ (x*y)):=tI e (op:=.Mult) (z:=x*y) (λd d h=>PyProof.Rows.mul_int (a:=x) (b:=y) h f) g i
theorem fP:aE c A (.Constant (.int i) kk pos) (br σ i):=ic (te (a:=.int i) rfl) λk=>rfl
theorem f6 (a:ak c) (b:c.scope.names[n]?=some (x,.local)) (e:cJ x=true) (h:lk n σ.loc=some (.int i)):aE c A (.Name x pos) (br σ i):=ic (kS a b e) λk=>by rw[nP,h];rfl
theorem oA (b:ak c) (f:c.scope.names[n]?=some (x,.local)) (g:cJ x=true) (h:lk n σ.loc=some (.ref i)) (m:σ.st.get i=some (.list l)) (o:n4 l (afB j)=some (.int v)):aE c A (.Subscript (.Name x p) (.Constant (.int (afB j)) kk q) pos) (br σ v):=
 ic (FR b rfl (kS b f g) (te (a:=.int (afB j)) rfl)) λk=>by
  show J n σ _=_;rw[nP,h];have e:xo σ.st (.ref i) (.int (afB j))=some (.int v):=by
   show Bx σ.st (.ref i) (afB j)=_;unfold Bx;rw[show vw σ.st (.ref i)=.lst l by show (ae2 Vw.bad yq (σ.st.get i):Vw)=_;rw[m];rfl]
   exact o
  show aD .no (xo σ.st (.ref i) (.int (afB j))) (λv=>k v σ)=_
  rw[e];rfl
theorem mK (b:ak c){n:Nat}{i:Int}(a:aeH e=false) (f:c.scope.names[n]?=some (("int" :Str),.globalImplicit)) (g:W.G.boot "int" =true) (h:aE c A e (br σ i)):aE c A (.Call (.Name "int" j) [e] [] pos) (br σ i):=
 ic (vF b (by rw [afA,a];rfl) f (by kernel_rfl) g (v:=.type "int") (by kernel_rfl) (by kernel_rfl) VA (jR a h nM)) λk=>by show br σ i σ _=_;rw [fB]
noncomputable def iJ (σ:LS) (b:Bool):Tc:=λc k=>eG (c=σ) (k b σ)
theorem tc (h:dB c A e a) (f:∀ k,a σ k=k b σ):dB c A e (iJ σ b):=by
 intro l k y q d s W N E R g Q i;refine ae (eg q d) ?_;clear q;intro j q;subst j;exact h _ k y ((f k).trans q) d s W N E R g Q i
theorem Mp (e:ak c) (f:aP c d A) (g:decide (x>y)=t) (h:afH .Gt b=false) (i:aE c A a (br σ x)) (j:aE c A b (br σ y)):dB c A (.Compare a [.Gt] [b] pos) (iJ σ t):=
 g▸tc (zW e f e.g.tok h i j) λk=>by show br σ x σ _=_;rw [fB];show br σ y σ _=_;rw [fB];rfl
noncomputable def fF (a σ₂:LS):Sc:=λc kn d=>eG (c=a) (kn σ₂)
noncomputable def hW (a σ₂:LS) (x:Int):Sc:=λc A d=>eG (c=a) (d (.int x) σ₂)
theorem sc{st:afD}{code}{a σ₂:LS}(h:bQ c A st code) (b:∀ kn kr,code a kn kr=kn σ₂):bQ c A st (fF a σ₂):=by
 intro k kn kr y q d s W N E R e Q f g;refine ae (eg q d) ?_;clear q;intro i j;subst i;exact h _ kn kr y ((b kn kr).trans j) d s W N E R e Q f g
theorem rc{st:afD}{code}{a σ₂:LS}{x:Int}(h:bQ c A st code) (b:∀ kn kr,code a kn kr=kr (.int x) σ₂):bQ c A st (hW a σ₂ x):=by
 intro k kn kr y q d s W N E R e Q f g;refine ae (eg q d) ?_;clear q;intro i j;subst i;exact h _ kn kr y ((b kn kr).trans j) d s W N E R e Q f g
theorem N4{a:List afD}{code}{b σ₂:LS}{x:Int}(h:cA c A a code) (e:∀ kn kr,code b kn kr=kr (.int x) σ₂):cA c A a (hW b σ₂ x):=by
 intro l kn kr y q d s W N E R f Q g i;refine ae (eg q d) ?_;clear q;intro j k;subst j;exact h _ kn kr y ((e kn kr).trans k) d s W N E R f Q g i
theorem pP:fF a σ₂ a kn kr=kn σ₂:=eC rfl
theorem vr:hW a σ₂ x a kn kr=kr (.int x) σ₂:=eC rfl
theorem w8{st:afD}{b:List afD}{a σ₂ e:LS}{x:Int}(h:bQ c A st (fF a σ₂)) (h':cA c A b (hW σ₂ e x)):cA c A (st::b) (hW a e x):=
 N4 (jZ h h') λkn d=>by show fF a σ₂ a _ d=_;rw[pP,vr]
theorem BX{st:afD}{b:List afD}{x:Int}{code}(h:bQ c A st (hW a σ₂ x)) (h':cA c A b code):cA c A (st::b) (hW a σ₂ x):=
 N4 (jZ h h') λkn d=>by show hW a σ₂ x a _ d=_;rw[vr]
theorem Mq{e:aeM}{pos:Pos}{σ:LS}{x:Int}(h:aE c A e (br σ x)):bQ c A (.Return (some e) pos) (hW σ σ x):=rc (vN h) λkn d=>by
 show br σ x σ d=_;rw[fB]
theorem ug (a:ak c) (b:c.comp=none){x:Str}{σ:LS}{i:Int}(f:eK e=false) (g:c.scope.names[n]?=some (x,.local)) (h:aE c A e (br σ i)):bQ c A (.Assign [.Name x j] e p) (fF σ ⟨(n,.int i)::σ.loc,σ.aK,σ.st,σ.n,σ.lo,σ.mark⟩):=
 sc (FQ f (zZ a b g) h) λkn d=>by show br σ i σ _=_;rw [fB];rfl
theorem ifS{t:aeM}{a b:List afD}{x:Int}{e}(f:dB c A t (iJ σ true)) (g:cA c A a (hW σ σ₂ x)) (h:cA c A b e):bQ c A (.If t a b pos) (hW σ σ₂ x):=
 rc (sJ f g h) λkn d=>by
  show iJ σ true σ _=_;rw[show ∀ k,iJ σ true σ k=k true σ from λk=>eC rfl]
  show hW σ σ₂ x σ kn d=_;rw[vr]
theorem N5{t:aeM}{σ:LS}{b}(e:dB c A t (iJ σ false)) (f:cA c A a b):bQ c A (.If t a [] pos) (fF σ σ):=
 sc (sJ e f qp) λkn d=>by
  show iJ σ false σ _=_;rw [show ∀ k,iJ σ false σ k=k false σ from λk=>eC rfl]
  rfl
theorem Mr (R:ak c) (n:j<2) (S:aE c A e (br σ x)) (T:aE c A o V) (X:∀ k,V σ k=k (.ref i) σ) (v:σ.st.get i=some (.list [.int a,.int b])) (Z:cM i σ.mark=false):
  bQ c A (.Assign [.Subscript o (.Constant (.int (afB j)) kk p'') p'] e p) (fF σ (σ.put i (.list (([.int a,.int b]:List O).set j (.int x))))):=by
 intro w kn kr y q W s α qa qb qc z qd hn hr';refine ae (eg q W) ?_;clear q;intro d q1;subst d;refine air ?_ (zy _ _ _ _ _ _);refine S w (λa g=>eG (a=.int x/\g=w) y) y (fB.trans (eC ⟨rfl,rfl⟩)) W s α qa qb qc z _ λva g tT dn cL bZ h dq B C=>?_
 refine ae (eg h W) λd D=>?_;obtain ⟨rfl,rfl⟩:=d
 have E:=z.step B.kp;refine T g (λa l=>eG (a=.ref i/\l=g) y) y ((X _).trans (eC ⟨rfl,rfl⟩)) W _ _ _ _ dq E _ λvb l rh eb ek dK h cw F G=>?_
 refine ae (eg h W) λd D=>?_;obtain ⟨rfl,rfl⟩:=d
 have tF:=E.step F.kp;refine (te (a:=.int (afB j)) rfl) l (λa H=>eG (a=.int (afB j)/\H=l) y) y (eC ⟨rfl,rfl⟩) W _ _ _ _ cw tF _ λvc H aeg dW jk fY h f I L=>?_
 refine ae (eg h W) λd D=>?_;obtain ⟨rfl,rfl⟩:=d
 refine aL C.inv ?_;clear C;intro u d;subst d;refine aL L.inv ?_;clear L;intro t3 d;subst d;refine eJ (f.at v (G.mono I.ge)) ?_;clear v G;intro ad ob d M m N;subst d;refine be N.inv ?_;clear N;intro vs qe d r;subst d;refine aH (jW r rfl) ?_;clear r;intro w1 w2 d P Q;subst d;refine aL P.inv ?_;clear P;intro u1 d;subst d;refine aL Q.inv ?_;clear Q;intro u2 d;subst d;refine ki_setAt (f.get m) (Int.natCast_nonneg j) (aiL (aiQ.mpr n) (by decide)) (aiQ.mpr n) ?_
 have q':=PySem.IsL.update (f.get m) (·.setIfInBounds (afB j).toNat (.int x u));refine Y (f.qH R (t:=dW.toks) (ao':=.list (([.int a,.int b]:List O).set j (.int x))) Z M m (f.vz M m) (agr ..) q' λN' qf=>by
  rcases j with _|_|j
  ·exact .list (vs:=[.int x u,.int b u2]) (.cons (.int _ _) (.cons (.int _ _) .nil))
  ·exact .list (vs:=[.int a u1,.int x u]) (.cons (.int _ _) (.cons (.int _ _) .nil))
  ·exact absurd n (aft.mpr (agC _ _))) λN' lB eR=>?_
 exact hn _ _ _ _ q1 lB (B.trans (F.trans (I.trans eR))).toSts
end
noncomputable def Ba(i:Nat):Option Stmt:=ai3.main.body[i]?
noncomputable def Zl (o:Option afD)(j:Nat):Option Stmt:=match o with
 |some (.ClassDef a c d b e f g h i k l)=>b[j]?
 |_=>none
noncomputable def N6 (a:List O)(c:Option (aez×Str))(o:Option afD):aJ:=match o with
 |some (.FunctionDef e d b f g h sc i j k)=>⟨d.args.map (·.arg),a,b,sc,c⟩
 |_=>⟨[],[],[],⟨.function,[],false,false,[]⟩,none⟩
noncomputable def dF (i:Nat)(a:List O)(b:Option (aez×Str)):aJ:=N6 a b (Ba i)
noncomputable def dM (i j:Nat) (a:List O) (b:Option (aez×Str)):aJ:=N6 a b (Zl (Ba i) j)
noncomputable def dg (n:Nat):List Nat:=af6 (motive:=λa=>Nat->List Nat) (λa=>[]) (λa b n=>aex (List.cons (Nat.mod n (nat_lit 128)) (b (Nat.div n (nat_lit 128)))) [] (aew n (nat_lit 0))) (nat_lit 60) n
noncomputable def sn(n:Nat):Str:=⟨⟨dg n⟩⟩
noncomputable def s0:Str:=sn (nat_lit 1684210)
noncomputable def s1:Str:=sn (nat_lit 1980386)
noncomputable def s2:Str:=sn (nat_lit 32685996385)
noncomputable def s3:Str:=sn (nat_lit 27340323572)
noncomputable def s4:Str:=sn (nat_lit 1913441)
noncomputable def s5:Str:=sn (nat_lit 29741659367)
noncomputable def s6:Str:=sn (nat_lit 12199)
noncomputable def s7:Str:=sn (nat_lit 232569588)
noncomputable def s8:Str:=sn (nat_lit 1915629)
noncomputable def s9:Str:=sn (nat_lit 183459269831563612044806463256808141958890248631909)
noncomputable def s10:Str:=sn (nat_lit 2303020129518922212595304907156821851034386993249)
noncomputable def gw:Str:=sn (nat_lit 439045720979879)
noncomputable def s12:Str:=sn (nat_lit 2789249209718269451777724878960720361454)
noncomputable def iX:Str:=sn (nat_lit 509274920400877)
noncomputable def jJ:Str:=sn (nat_lit 3499571623917)
noncomputable def pC:Str:=sn (nat_lit 65178289835848423)
noncomputable def gy:Str:=sn (nat_lit 7341403567688463091)
noncomputable def N7:Str:=sn (nat_lit 28160129382)
noncomputable def pD:Str:=sn (nat_lit 220016880)
noncomputable def rQ:Str:=sn (nat_lit 211317490)
noncomputable def N8:Str:=sn (nat_lit 30815400686)
noncomputable def C8:Str:=sn (nat_lit 487903953876853)
noncomputable def N9:Str:=sn (nat_lit 30815139689)
noncomputable def s23:Str:=sn (nat_lit 3499542426867)
noncomputable def s24:Str:=sn (nat_lit 29902094932822431554668417848298481367185993122765938174419697132643359391678047609096073528341240263965439095)
noncomputable def pE:Str:=sn (nat_lit 27057156334)
noncomputable def ky:Str:=sn (nat_lit 215691987)
noncomputable def yJ:Str:=sn (nat_lit 213692642)
noncomputable def fu:Str:=sn (nat_lit 29464768752)
noncomputable def C9:Str:=sn (nat_lit 7273)
noncomputable def Dc:Str:=sn (nat_lit 891113)
noncomputable def Dd:Str:=sn (nat_lit 825833)
noncomputable def De:Str:=sn (nat_lit 858985)
noncomputable def dY:Str:=sn (nat_lit 7285)
noncomputable def Df:Str:=sn (nat_lit 891125)
noncomputable def Dg:Str:=sn (nat_lit 825845)
noncomputable def Dh:Str:=sn (nat_lit 858997)
noncomputable def Di:Str:=sn (nat_lit 27369568757)
noncomputable def il:Str:=sn (nat_lit 1914729)
noncomputable def lV:Str:=sn (nat_lit 228325346)
noncomputable def yK:Str:=sn (nat_lit 1980354)
noncomputable def s41:Str:=sn (nat_lit 1109401538092796859448434717967557674438753)
noncomputable def s42:Str:=sn (nat_lit 4696590749077970334064141569389600)
noncomputable def Oa:Str:=sn (nat_lit 211530982)
noncomputable def lW:Str:=sn (nat_lit 213662964)
noncomputable def ip:Str:=sn (nat_lit 31081608427)
noncomputable def jK:Str:=sn (nat_lit 4012552010355)
noncomputable def lX:Str:=sn (nat_lit 230520677)
noncomputable def s48:Str:=sn (nat_lit 120281555776240478909600)
noncomputable def s49:Str:=sn (nat_lit 1489518443178099845485390263079823772974981858748122335905608736)
noncomputable def s50:Str:=sn (nat_lit 90857874990378586809120868428637659338764249079880229614624)
noncomputable def gA:Str:=sn (nat_lit 31360317812)
noncomputable def s52:Str:=sn (nat_lit 17654289451687522070230176)
noncomputable def Dj:Str:=sn (nat_lit 4953558574884358956086388)
noncomputable def s54:Str:=sn (nat_lit 351583381415662247441890853664545339800752989947032094941461680811209888)
noncomputable def s55:Str:=sn (nat_lit 6553618105418653601293078532443619647827575561055504198526424546059021226081)
noncomputable def nF:Str:=sn (nat_lit 65253223870279926)
noncomputable def jL:Str:=sn (nat_lit 243085921)
noncomputable def f7:Str:=sn (nat_lit 3980834681072)
noncomputable def eB:Str:=sn (nat_lit 509584938234610)
noncomputable def yL:Str:=sn (nat_lit 41464991726959899406989434952756905352086407286977766)
noncomputable def g6:Str:=sn (nat_lit 27071920119)
noncomputable def fw:Str:=sn (nat_lit 232355951)
noncomputable def f9:Str:=sn (nat_lit 213628900)
noncomputable def pF:Str:=sn (nat_lit 226228204)
noncomputable def s65:Str:=sn (nat_lit 137878008787304460318700)
noncomputable def s66:Str:=sn (nat_lit 45241803977858723779674647579336105086750817)
noncomputable def fx:Str:=sn (nat_lit 3982755641193)
noncomputable def dx:Str:=sn (nat_lit 4017373395695)
noncomputable def Ob:Str:=sn (nat_lit 29779294059)
noncomputable def uX:Str:=sn (nat_lit 27076163558)
noncomputable def yM:Str:=sn (nat_lit 7268149395761869555)
noncomputable def kz:Str:=sn (nat_lit 1817583)
noncomputable def Oc:Str:=sn (nat_lit 1068174322624942864756)
noncomputable def yN:Str:=sn (nat_lit 23482786538440142341735227296871442170742557378083305)
noncomputable def s75:Str:=sn (nat_lit 243086566)
noncomputable def rR:Str:=sn (nat_lit 3982730230132)
noncomputable def g7:Str:=sn (nat_lit 509241338966765)
noncomputable def s78:Str:=sn (nat_lit 10390955715862263201609253680160)
noncomputable def yO:Str:=sn (nat_lit 245102707)
noncomputable def uY:Str:=sn (nat_lit 242873587)
noncomputable def yP:Str:=sn (nat_lit 38709326520049062212724)
noncomputable def s82:Str:=sn (nat_lit 38846627762232572572832)
noncomputable def s83:Str:=sn (nat_lit 8417935371586337312)
noncomputable def Dk:Str:=sn (nat_lit 65253160502538980)
noncomputable def s85:Str:=sn (nat_lit 68794272)
noncomputable def s86:Str:=sn (nat_lit 122623139153978465252512)
noncomputable def uZ:Str:=sn (nat_lit 31098418921)
noncomputable def yQ:Str:=sn (nat_lit 236714308)
noncomputable def dj:Str:=sn (nat_lit 0)
noncomputable def vd:Str:=sn (nat_lit 7482)
noncomputable def rS:Str:=sn (nat_lit 31083740404)
noncomputable def yR:Str:=sn (nat_lit 3978729042166)
noncomputable def pG:Str:=sn (nat_lit 242842101)
noncomputable def Dl:Str:=sn (nat_lit 27321202803)
noncomputable def kA:Str:=sn (nat_lit 1652717)
noncomputable def nG:Str:=sn (nat_lit 509205376711408)
noncomputable def nH:Str:=sn (nat_lit 3978710003956)
noncomputable def rT:Str:=sn (nat_lit 31100336745)
noncomputable def s99:Str:=sn (nat_lit 30815369061)
noncomputable def Ms:Str:=sn (nat_lit 1669621)
noncomputable def BY:Str:=sn (nat_lit 448145974162148)
noncomputable def ki:Str:=sn (nat_lit 27359129846)
noncomputable def BZ:Str:=sn (nat_lit 15396039174780802773349092)
noncomputable def acH:Str:=sn (nat_lit 286986713580972883715137812325)
noncomputable def gR:Str:=sn (nat_lit 14182)
noncomputable def uh:Str:=sn (nat_lit 31381501923)
noncomputable def acI:Str:=sn (nat_lit 62372400349051369)
noncomputable def acJ:Str:=sn (nat_lit 2363183704070255732)
noncomputable def o4:Str:=sn (nat_lit 251994835147975468636092298400)
noncomputable def acK:Str:=sn (nat_lit 4973673526586899164656756)
noncomputable def xQ:Str:=sn (nat_lit 513979226829046)
noncomputable def acL:Str:=sn (nat_lit 226177271)
noncomputable def acM:Str:=sn (nat_lit 29749801698)
noncomputable def acN:Str:=sn (nat_lit 236550771)
noncomputable def Mt:Str:=sn (nat_lit 170242261335343594468824457573906414)
noncomputable def acO:Str:=sn (nat_lit 141968684086581110492737156127723166296182881)
noncomputable def o5:Str:=sn (nat_lit 27356854627)
noncomputable def eS:Str:=sn (nat_lit 215692019)
noncomputable def B0:Str:=sn (nat_lit 30815304435)
noncomputable def acP:Str:=sn (nat_lit 192316727414979279378494544710726322209483465819693990212233950324)
noncomputable def Mu:Str:=sn (nat_lit 27344500291)
noncomputable def Mv:Str:=sn (nat_lit 255604675)
noncomputable def Mw:Str:=sn (nat_lit 513915859088068)
noncomputable def Mx:Str:=sn (nat_lit 1882437)
noncomputable def My:Str:=sn (nat_lit 213628878)
noncomputable def Mz:Str:=sn (nat_lit 13775)
noncomputable def MA:Str:=sn (nat_lit 3809589672015)
noncomputable def MC:Str:=sn (nat_lit 1951475151058)
noncomputable def MD:Str:=sn (nat_lit 4014967943890)
noncomputable def ME:Str:=sn (nat_lit 213612499)
noncomputable def MF:Str:=sn (nat_lit 119075542)
noncomputable def MG:Str:=sn (nat_lit 443305285942259)
noncomputable def B1:Str:=sn (nat_lit 447704102318307)
noncomputable def MH:Str:=sn (nat_lit 529078638406547034771536272588338336)
noncomputable def acQ:Str:=sn (nat_lit 3398897760745)
noncomputable def acR:Str:=sn (nat_lit 38727732666238611584116)
noncomputable def B2:Str:=sn (nat_lit 483436900383209)
noncomputable def B3:Str:=sn (nat_lit 68560589453848808)
noncomputable def MI:Str:=sn (nat_lit 3944329476846)
noncomputable def B4:Str:=sn (nat_lit 3982751414243)
noncomputable def rq:Str:=sn (nat_lit 3978703747042)
noncomputable def acS:Str:=sn (nat_lit 38801560746194300925044)
noncomputable def MJ:Str:=sn (nat_lit 31083688174)
noncomputable def B5:Str:=sn (nat_lit 213725420)
noncomputable def acT:Str:=sn (nat_lit 7341403567686349044)
noncomputable def acU:Str:=sn (nat_lit 1077532315183365157108)
noncomputable def B6:Str:=sn (nat_lit 487315524481268)
noncomputable def acV:Str:=sn (nat_lit 1078260195694883827956)
noncomputable def acW:Str:=sn (nat_lit 7845753571436589300)
noncomputable def acX:Str:=sn (nat_lit 17498617583099043156423779)
noncomputable def acY:Str:=sn (nat_lit 140565193452082654577350153024708055995846753)
noncomputable def acZ:Str:=sn (nat_lit 3807976961271)
noncomputable def xR:Str:=sn (nat_lit 3463318173807)
noncomputable def dI:Str:=sn (nat_lit 3978441618662)
noncomputable def ac0:Str:=sn (nat_lit 302414911016034464884)
noncomputable def ru:Str:=sn (nat_lit 7341403567684270068)
noncomputable def ac1:Str:=sn (nat_lit 79928063983025208961594516672810095125709780667381629793011)
noncomputable def ac2:Str:=sn (nat_lit 1078405432590980559603)
noncomputable def xS:Str:=sn (nat_lit 58140563379853577774861520370757875307625952851276692011061494727129748073035715)
noncomputable def ac3:Str:=sn (nat_lit 624625807204251260044037134941823016890618308969688272993)
noncomputable def ac4:Str:=sn (nat_lit 3463328822883)
noncomputable def ac5:Str:=sn (nat_lit 2106078437612789897472014708)
noncomputable def ac6:Str:=sn (nat_lit 17507896080373807253648483)
noncomputable def ac7:Str:=sn (nat_lit 9623582441)
noncomputable def ac8:Str:=sn (nat_lit 347723876804590086226232323391163485257324622439005210804878917756598688)
noncomputable def ac9:Str:=sn (nat_lit 24414129947940459852264842354083027191727916681763981023832088015904)
noncomputable def ada:Str:=sn (nat_lit 1817330)
noncomputable def fJ:Str:=sn (nat_lit 109)
noncomputable def o6:Str:=sn (nat_lit 69)
noncomputable def lC:Str:=sn (nat_lit 145661293)
noncomputable def gS:Str:=sn (nat_lit 3809589457650)
noncomputable def cO:Str:=sn (nat_lit 84)
noncomputable def lD:Str:=sn (nat_lit 12455)
noncomputable def fg:Str:=sn (nat_lit 232354547)
noncomputable def o7:Str:=sn (nat_lit 57367564599687657)
noncomputable def dX:Str:=sn (nat_lit 65789343989217251)
noncomputable def hZ:Str:=sn (nat_lit 137953237979946068799720)
noncomputable def B7:Str:=sn (nat_lit 211498231)
noncomputable def o8:Str:=sn (nat_lit 28932044386)
noncomputable def fh:Str:=sn (nat_lit 83)
noncomputable def MK:Str:=sn (nat_lit 120)
noncomputable def xT:Str:=sn (nat_lit 120160501073825582642406)
noncomputable def iQ:Str:=sn (nat_lit 6264)
noncomputable def xU:Str:=sn (nat_lit 8665080815842662709648364906409472374766)
noncomputable def ML:Str:=sn (nat_lit 4184606291918)
noncomputable def xV:Str:=sn (nat_lit 286696902045481018964408268788)
noncomputable def xW:Str:=sn (nat_lit 4940311124277829873635884107690738)
noncomputable def MM:Str:=sn (nat_lit 15655)
noncomputable def jv:Str:=sn (nat_lit 14676)
noncomputable def m6:Str:=sn (nat_lit 14311)
noncomputable def xX:Str:=sn (nat_lit 15243586061793701326895727)
noncomputable def MN:Str:=sn (nat_lit 213612515)
noncomputable def xY:Str:=sn (nat_lit 632359823907562223825344583526232807)
noncomputable def MO:Str:=sn (nat_lit 90)
noncomputable def xZ:Str:=sn (nat_lit 228341481)
noncomputable def ui:Str:=sn (nat_lit 75)
noncomputable def B8:Str:=sn (nat_lit 72)
noncomputable def MP:Str:=sn (nat_lit 104)
noncomputable def B9:Str:=sn (nat_lit 87)
noncomputable def Ca:Str:=sn (nat_lit 48)
noncomputable def Cb:Str:=sn (nat_lit 86)
noncomputable def Cc:Str:=sn (nat_lit 245004149)
noncomputable def rv:Str:=sn (nat_lit 102)
noncomputable def x9:Str:=sn (nat_lit 301532661393910514748267115251)
noncomputable def Cd:Str:=sn (nat_lit 27321334772)
noncomputable def h9:Str:=sn (nat_lit 815015)
noncomputable def ya:Str:=sn (nat_lit 2143092438338103654357662185)
noncomputable def o9:Str:=sn (nat_lit 151952749)
noncomputable def MQ:Str:=sn (nat_lit 380240579698029)
noncomputable def MR:Str:=sn (nat_lit 384638626209133)
noncomputable def uj:Str:=sn (nat_lit 214867309)
noncomputable def yb:Str:=sn (nat_lit 130970690852082058802921)
noncomputable def MS:Str:=sn (nat_lit 1031249136154033534697)
noncomputable def MT:Str:=sn (nat_lit 3841702410580)
noncomputable def MU:Str:=sn (nat_lit 1962694)
noncomputable def MV:Str:=sn (nat_lit 14945)
noncomputable def Ce:Str:=sn (nat_lit 831399)
noncomputable def MW:Str:=sn (nat_lit 6392)
noncomputable def jw (x:Str) (l:List Str):Bool:=aeL false (λa c b=>aex b true (seq a x)) l
noncomputable def HU:aJ:=dF 11 [] none
noncomputable def HV:aJ:=dF 12 [] none
noncomputable def HW:aJ:=dM 13 0 [] none
noncomputable def HX:aJ:=dM 13 1 [] none
noncomputable def qT:aJ:=dF 14 [.int 0] (some (148,"elided.<locals>."))
noncomputable def HY:aJ:=dF 16 [] none
noncomputable def HZ:aJ:=dM 17 0 [] none
noncomputable def H0:aJ:=dM 17 1 [] none
noncomputable def H2:aJ:=dM 17 2 [] none
noncomputable def H3:aJ:=dM 17 3 [] none
noncomputable def H4:aJ:=dM 17 4 [] none
noncomputable def H5:aJ:=dM 17 5 [] none
noncomputable def H6:aJ:=dM 17 6 [] none
noncomputable def H7:aJ:=dF 18 [.none] none
noncomputable def H8:aJ:=dF 19 [] none
noncomputable def H9:aJ:=dF 20 [] none
noncomputable def Ia:aJ:=dF 21 [] none
noncomputable def Ib:aJ:=dF 24 [] none
noncomputable def Ic:aJ:=dF 25 [] none
noncomputable def Ie:aJ:=dF 26 [] none
noncomputable def Ig:aJ:=dF 27 [] none
noncomputable def Ih:aJ:=dF 28 [] none
noncomputable def Ii:aJ:=dF 29 [] none
noncomputable def Ij:aJ:=dF 32 [] none
noncomputable def qU:aJ:=dF 33 [] (some (304,"fields_of.<locals>."))
noncomputable def Ik:aJ:=dF 36 [] none
noncomputable def Il:aJ:=dF 37 [] none
noncomputable def Im:aJ:=dM 38 0 [] none
noncomputable def Io:aJ:=dM 38 1 [] none
noncomputable def Ip:aJ:=dM 38 2 [] none
noncomputable def Iq:aJ:=dF 40 [] none
noncomputable def Ir:aJ:=dM 41 0 [] none
noncomputable def It:aJ:=dM 41 1 [] none
noncomputable def qV:aJ:=dF 42 [] (some (394,"is_like.<locals>."))
noncomputable def Iu:aJ:=dF 43 [] none
noncomputable def Iv:aJ:=dF 44 [] none
noncomputable def Iw:aJ:=dF 49 [] none
noncomputable def Iy:aJ:=dF 51 [] none
noncomputable def Iz:aJ:=dM 53 0 [] none
noncomputable def IA:aJ:=dM 53 1 [] none
noncomputable def IB:aJ:=dM 53 2 [] none
noncomputable def IC:aJ:=dM 54 0 [] none
noncomputable def ID:aJ:=dM 54 1 [] none
noncomputable def IE:aJ:=dM 54 2 [] none
noncomputable def IF:aJ:=dM 54 3 [] none
noncomputable def IG:aJ:=dM 54 4 [] none
noncomputable def IH:aJ:=dM 54 6 [] none
noncomputable def II:aJ:=dM 54 7 [.int 0] none
noncomputable def IJ:aJ:=dM 54 8 [] none
noncomputable def IK:aJ:=dM 54 9 [] none
noncomputable def IL:aJ:=dM 54 10 [] none
noncomputable def IM:aJ:=dM 54 11 [] none
noncomputable def IP:aJ:=dM 54 14 [] none
noncomputable def IQ:aJ:=dM 57 0 [.str dj,.tup []] none
noncomputable def IS:aJ:=dM 58 0 [] none
noncomputable def IT:aJ:=dM 59 0 [] none
noncomputable def IU:aJ:=dM 60 0 [.int 0] none
noncomputable def IV:aJ:=dM 61 0 [.none] none
noncomputable def IW:aJ:=dM 61 1 [] none
noncomputable def IX:aJ:=dM 62 0 [] none
noncomputable def IY:aJ:=dM 62 1 [] none
noncomputable def IZ:aJ:=dM 62 2 [] none
noncomputable def I0:aJ:=dM 63 0 [] none
noncomputable def I1:aJ:=dM 63 1 [] none
noncomputable def I2:aJ:=dM 63 2 [] none
noncomputable def I3:aJ:=dM 63 3 [] none
noncomputable def I4:aJ:=dM 63 4 [] none
noncomputable def I5:aJ:=dM 63 5 [] none
noncomputable def I6:aJ:=dM 63 6 [] none
noncomputable def I7:aJ:=dM 63 7 [] none
noncomputable def qW:aJ:=dM 63 8 [] (some (817,"Collector.take_const.<locals>."))
noncomputable def I8:aJ:=dM 63 9 [] none
noncomputable def I9:aJ:=dM 63 10 [] none
noncomputable def Ja:aJ:=dM 63 11 [] none
noncomputable def Jb:aJ:=dM 63 12 [] none
noncomputable def Jc:aJ:=dM 63 13 [] none
noncomputable def Jd:aJ:=dF 64 [] none
noncomputable def Je:aJ:=dF 65 [] none
noncomputable def jm:aJ:=dF 67 [] none
noncomputable def oB:aJ:=dF 68 [] none
noncomputable def Jf:aJ:=dF 69 [] none
noncomputable def Jg:aJ:=dF 72 [.tup [],.tup []] none
noncomputable def Jh:aJ:=dF 73 [] none
noncomputable def Ji:aJ:=dF 74 [] none
noncomputable def Jj:aJ:=dF 75 [] none
noncomputable def Jk:aJ:=dF 76 [] none
noncomputable def Jl:aJ:=dF 77 [] none
noncomputable def Jm:aJ:=dF 78 [] none
noncomputable def Jn:aJ:=dF 79 [] none
noncomputable def Jo:aJ:=dF 80 [] none
noncomputable def tJ:aJ:=dF 81 [] none
noncomputable def fG:aJ:=dF 82 [] none
noncomputable def oE:List (Nat×aJ):=(110,HU)::(115,HV)::(129,HW)::(136,HX)::(149,qT)::(163,HY)::(177,HZ)::(182,H0)::(189,H2)::(194,H3)::(201,H4)::(208,H5)::(213,H6)::(228,H7)::(233,H8)::(238,H9)::(243,Ia)::(250,Ib)::(257,Ic)::(262,Ie)::(267,Ig)::(274,Ih)::(281,Ii)::(300,Ij)::(305,qU)::(310,Ik)::(315,Il)::(329,Im)::(336,Io)::(343,Ip)::(362,Iq)::(376,Ir)::(383,It)::(395,qV)::(402,Iu)::(409,Iv)::(418,Iw)::(432,Iy)::(467,Iz)::(474,IA)::(479,IB)::(500,IC)::(507,ID)::(514,IE)::(519,IF)::(526,IG)::(540,IH)::(548,II)::(555,IJ)::(562,IK)::(569,IL)::(576,IM)::(598,IP)::(623,IQ)::(644,IS)::(665,IT)::(687,IU)::(709,IV)::(716,IW)::(737,IX)::(742,IY)::(749,IZ)::(770,I0)::(775,I1)::(782,I2)::(789,I3)::(794,I4)::(799,I5)::(804,I6)::(811,I7)::(818,qW)::(823,I8)::(830,I9)::(837,Ja)::(844,Jb)::(849,Jc)::(863,Jd)::(870,Je)::(877,jm)::(884,oB)::(891,Jf)::(904,Jg)::(911,Jh)::(916,Ji)::(923,Jj)::(928,Jk)::(933,Jl)::(938,Jm)::(943,Jn)::(948,Jo)::(955,tJ)::(962,fG)::[]
noncomputable def Ah:List (Str×O):=("_wall",.glob 21)::("LendError",.glob 39)::("NameFault",.glob 52)::("VisibilityFault",.glob 64)::("TypeFault",.glob 76)::("TraitFault",.glob 88)::("CoherenceFault",.glob 100)::("INT_KINDS",.tup [.str C9,.str Dc,.str Dd,.str De,.str dY,.str Df,.str Dg,.str Dh,.str Di])::("STATIC",.str gw)::("regions_of",.glob 110)::("regions_turned",.glob 115)::("Namer",.glob 139)::("elided",.glob 149)::("only_region",.glob 156)::("check_regions",.glob 163)::("Reader",.glob 216)::("type_of",.glob 228)::("is_told",.glob 233)::("trait_of",.glob 238)::("bounds_of",.glob 243)::("DROP",.str yQ)::("parts_of",.glob 250)::("rebuilt",.glob 257)::("substituted",.glob 262)::("with_regions",.glob 267)::("no_region",.glob 274)::("erased",.glob 281)::("region_text",.glob 288)::("type_text",.glob 293)::("field_rows",.glob 300)::("fields_of",.glob 305)::("MOST_DEEP",.int 40)::("whole_of",.glob 310)::("field_types",.glob 315)::("Holder",.glob 346)::("check_drop",.glob 355)::("told_types",.glob 362)::("Renaming",.glob 386)::("is_like",.glob 395)::("check_methods",.glob 402)::("check_rules",.glob 409)::("PRELUDE_NAMES",.tup [.str Mu,.str Mv,.str Mw,.str yQ,.str Mx,.str My,.str Mz,.str MA,.str MC,.str MD,.str ME,.str MF,.str MG])::("MOST_USES",.int 30)::("WAYS",.tup [.str o5,.str eS,.str B0])::("joined",.glob 418)::("parent_of",.glob 425)::("is_within",.glob 432)::("Use",.glob 449)::("Table",.glob 482)::("Modules",.glob 601)::("UNIT",.tup [.str s3,.tup []])::("Adt",.glob 626)::("Sig",.glob 647)::("TraitRow",.glob 668)::("ImplRow",.glob 690)::("World",.glob 719)::("Scope",.glob 752)::("Collector",.glob 852)::("names_within",.glob 863)::("collect",.glob 870)::("_law_pool",.glob 877)::("_law_take",.glob 884)::("_law_one",.glob 891)::("_law_none",.tup [.tup [],.tup []])::("_law_block",.tup [.str o8,.int 0,.tup [],.none])::("_law_path",.glob 904)::("_law_type",.glob 911)::("_law_drawn",.glob 916)::("_law_generics",.glob 923)::("_law_fn",.glob 928)::("_law_program",.glob 933)::("_law_sig_right",.glob 938)::("_law_types_right",.glob 943)::("_law_rest_right",.glob 948)::("_law_refused",.glob 955)::("law",.glob 962)::[]
noncomputable def Gb:List Str:=["max","len","tuple","list","int","sorted","all","str","isinstance","range","enumerate","zip","reversed","dict"]
noncomputable def vT:List (Nat×List (Str×Nat)):=[(139,[("turn",136)]),(216,[("read",182),("unknown",189),("path",194),("single",201),("bare",208),("named",213)]),(346,[("look",336),("look_at_adt",343)]),(386,[("fits",383)]),(449,[]),(482,[("space",474),("is_taken",479)]),(601,[("enter",507),("declare",514),("declare_type",519),("enter_variants",526),("can_see",540),("find",548),("walk",555),("begin",562),("step",569),("look",576),("checked_uses",598)]),(626,[]),(647,[]),(668,[]),(690,[]),(719,[("is_field_seen",716)]),(752,[("names",742),("within",749)]),(852,[("run",775),("told_type",782),("opened",789),("take_type",794),("fields",799),("take_fn",804),("self_input",811),("take_const",818),("take_trait",823),("take_impl",830),("check_params",837),("closed",844),("trait_of_impl",849)])]
noncomputable def sC:List (Nat×List Str):=[(139,["given"]),(216,["modules","module","generics","self_type","fresh"]),(346,["world","open","done"]),(386,["known","found"]),(449,["names","is_pub","spot"]),(482,["types","values","uses"]),(601,["kinds","publics","tables","generics","items"]),(626,["path","module","regions","params","variants","publics","is_enum"]),(647,["path","regions","params","own","inputs","output","self_kind","has_body"]),(668,["path","params","methods","defaults"]),(690,["number","regions","params","trait","trait_args","self_type","methods","spot"]),(719,["modules","adts","variants","sigs","traits","impls","consts","bodies"]),(752,["module","regions","params","self_type"]),(852,["items","modules","world","late"])]
noncomputable def sD:List (Nat×Nat):=[(139,129),(216,177),(346,329),(386,376),(482,467),(601,500),(626,623),(647,644),(668,665),(690,687),(719,709),(752,737),(852,770)]
noncomputable def cP:Gl:=⟨λx=>bw x Ah,λx=>jw x Gb,λa=>lk a oE,λC n=>aD none (lk C vT) (bw n),λC n=>aD false (lk C sC) (jw n),λC=>lk C sD⟩
noncomputable def kids (e:aeM):List Expr:=afK (motive_1:=λb=>List aeM) e (λb b b=>[]) (λb b b=>[]) (λb b b b=>[]) (λb b b=>[]) (λb b b b=>[]) (λb b b b=>[]) (λb b b=>[]) (λb b b=>[]) (λb b b b=>[]) (λb b b b=>[]) (λb b b b b=>[]) (λb b b b=>[]) (λb b=>[]) (λb b=>[]) (λb b=>[]) (λb b b b=>[]) (λb a b b=>a) (λb b b b=>[]) (λb b=>[]) (λb b b=>[]) (λb b b=>[]) (λb b b=>[]) (λb b=>[]) (λb b=>[]) (λb b=>[]) (λa b b=>a) (λb b b b=>[])
noncomputable def Bb (e:aeM):Option (aeM×afC):=afK (motive_1:=λa=>Option (aeM×afC)) e (λa a a=>none) (λa a a=>none) (λa a a a=>none) (λa a a=>none) (λa b sc a=>some (b,sc)) (λa a a a=>none) (λa a a=>none) (λa a a=>none) (λa a a a=>none) (λa a a a=>none) (λa a a a a=>none) (λa a a a=>none) (λa a=>none) (λa a=>none) (λa a=>none) (λa a a a=>none) (λa a a a=>none) (λa a a a=>none) (λa a=>none) (λa a a=>none) (λa a a=>none) (λa a a=>none) (λa a=>none) (λa a=>none) (λa a=>none) (λa a a=>none) (λa a a a=>none)
noncomputable def Cf (s:afD):Option Expr:=Stmt.casesOn (motive_2:=λa=>Option aeM) s (λa a a a a a a a a a=>none) (λa a a a a a a a a a=>none) (λa a a a a a a a a a a=>none) (λe a=>e) (λa a=>none) (λa e a=>some e) (λa a a a a a a=>none) (λa a a a=>none) (λa a a a a=>none) (λa a a a a=>none) (λa a a a a=>none) (λa a a a=>none) (λa a a a=>none) (λa a a=>none) (λa a a=>none) (λa a a=>none) (λa a a=>none) (λa a a a a=>none) (λa a a a a=>none) (λa a a=>none) (λa a=>none) (λa a a a=>none) (λa a=>none) (λa a=>none) (λa a=>none) (λa=>none) (λa=>none) (λa=>none)
noncomputable def Zm (s:afD):List Stmt:=Stmt.casesOn (motive_2:=λa=>List afD) s (λa a a a a a a a a a=>[]) (λa a a a a a a a a a=>[]) (λa a a a a a a a a a a=>[]) (λa a=>[]) (λa a=>[]) (λa a a=>[]) (λa a a a a a a=>[]) (λa a a a=>[]) (λa a a a a=>[]) (λa a b a a=>b) (λa a a a a=>[]) (λa a a a=>[]) (λa a a a=>[]) (λa a a=>[]) (λa a a=>[]) (λa a a=>[]) (λa a a=>[]) (λa a a a a=>[]) (λa a a a a=>[]) (λa a a=>[]) (λa a=>[]) (λa a a a=>[]) (λa a=>[]) (λa a=>[]) (λa a=>[]) (λa=>[]) (λa=>[]) (λa=>[])
noncomputable def yc (l:List afD):Option (aeM×afC):=aD none (l[4]?) λs=>aD none (Cf s) λe=>aD none ((kids e)[1]?) λc=>aD none ((kids c)[1]?) Bb
noncomputable def yd (l:List afD):Option (aeM×afC):=aD none (l[1]?) λs=>aD none (Cf s) λc=>aD none ((kids c)[1]?) Bb
noncomputable def ye (l:List afD):Option (aeM×afC):=aD none (l[6]?) λs=>aD none ((Zm s)[0]?) λs=>aD none (Cf s) λc=>aD none ((kids c)[1]?) Bb
noncomputable def yf (l:List afD):Option (List afD×afC):=match (l[5]?:Option afD)with
 |some (.FunctionDef a c b d e f sc g h i)=>some (b,sc)
 |_=>none
noncomputable def pa (o:Option (aeM×afC)):Option mT:=aD none o λp=>some ⟨"region",.expr p.1,p.2⟩
noncomputable def Cg (o:Option (List afD×afC)):Option mT:=aD none o λp=>some ⟨"region",.stmts p.1,p.2⟩
noncomputable def kY (i:Nat):Option mT:=lk i [(0,pa (yc qT.body)),(1,pa (yd qW.body)),(2,pa (ye qV.body)),(3,Cg (yf qU.body))] |>.bind id
section
set_option backward.match.sparseCases true
noncomputable def lE (K:afV) (a:Nat):Option Obj:=aeL none (λe c b=>aex b (some e.2) (aew e.1 a)) K
theorem VB{K:afV}{a:Nat}:lE K a=K.lookup a:=by
 induction K with
 |nil=>rfl
 |cons e r c=>
  obtain⟨b,o⟩:=e;show aex (motive:=λd=>Option Obj) (lE r a) (some o) (aew b a)=_
  rw[afz];induction q:aew b a using aen with
  |true=>rw[aem q,beq_self_eq_true]
  |false=>rw[show (a ==b)=false from beq_eq_false_iff_ne.mpr λz=>(by rw[z,afI]at q;exact gr q)];exact c
theorem w9{K:afV}{a:Nat}{o}(h:lE K a=o):K.lookup a=o:=VB▸h
theorem toL (h:vals.length=n):∃ f:Nat->ael,vals=(af2 n).map f:=by
 refine⟨λi=>vals.getD i .none,List.ext_getElem? λi=>?_⟩
 rw[aga];by_cases q:i<n
 ·rw[List.getElem?_range q,aeW (by omega)]
  simp[List.getD,show i<vals.length by omega]
 ·rw[List.getElem?_eq_none (by omega),List.getElem?_eq_none (by simpa using q)]
  rfl
noncomputable def VC(i:Nat):Pos:=(([⟨nat_lit 8,nat_lit 8,nat_lit 8,nat_lit 17⟩,⟨nat_lit 8,nat_lit 8,nat_lit 8,nat_lit 26⟩,⟨nat_lit 8,nat_lit 27,nat_lit 8,nat_lit 31⟩,⟨nat_lit 8,nat_lit 33,nat_lit 8,nat_lit 40⟩,⟨nat_lit 8,nat_lit 8,nat_lit 8,nat_lit 41⟩,⟨nat_lit 8,nat_lit 8,nat_lit 8,nat_lit 41⟩,⟨nat_lit 9,nat_lit 8,nat_lit 9,nat_lit 12⟩,⟨nat_lit 9,nat_lit 8,nat_lit 9,nat_lit 20⟩,⟨nat_lit 9,nat_lit 23,nat_lit 9,nat_lit 30⟩,⟨nat_lit 9,nat_lit 8,nat_lit 9,nat_lit 30⟩,⟨nat_lit 10,nat_lit 8,nat_lit 10,nat_lit 12⟩,⟨nat_lit 10,nat_lit 8,nat_lit 10,nat_lit 17⟩,⟨nat_lit 10,nat_lit 20,nat_lit 10,nat_lit 24⟩,⟨nat_lit 10,nat_lit 8,nat_lit 10,nat_lit 24⟩]:List Pos)[i]?).getD ⟨0,0,0,0⟩
variable{W:Wd}
noncomputable def MX (v:ael):Option Int:=afo (motive:=λW=>Option Int) v none none none (λW=>none) (λi W=>some i) (λW W=>none) (λW W=>none) (λW W=>none) (λW=>none) (λW=>none) (λW=>none)
noncomputable def MY (v:ael):Option Str:=afo (motive:=λW=>Option Str) v none none none (λW=>none) (λW W=>none) (λW W=>none) (λx W=>some x) (λW W=>none) (λW=>none) (λW=>none) (λW=>none)
noncomputable def Ci (v:ael):Option Addr:=afo (motive:=λW=>Option aez) v none none none (λW=>none) (λW W=>none) (λW W=>none) (λW W=>none) (λW W=>none) (λW=>none) (λW=>none) some
theorem VD(h:MX v=some i):∃ t,v=.int i t:=by induction v using afo with
 |int j t=>exact⟨t,by rw[aej h]⟩
 |_=>exact aT h
theorem VE(h:MY v=some x):∃ t,v=.str x t:=by induction v using afo with
 |str j t=>exact⟨t,by rw[aej h]⟩
 |_=>exact aT h
theorem Gc(h:Ci v=some x):v=.ref x:=by induction v using afo with
 |ref j=>rw[aej h]
 |_=>exact aT h
noncomputable def MZ (d:Data):Option (Array ael):=match d with
 |.seq W a=>some W
 |_=>none
theorem VF(h:MZ d=some vs):∃ k,d=.seq vs k:=by induction d using aia with
 |seq W k=>exact⟨k,by rw[aej h]⟩
 |_=>exact aT h
noncomputable def rU (f:ael->O->Bool) (ws:List ael):List O->Bool:=aeL (motive:=λW=>List O->Bool) (λl=>l.isEmpty) (λv W r l=>aeC (motive:=λW=>Bool) l false λa l=>and (and (f v a) a.sure) (r l)) ws
theorem Fj{f:ael->O->Bool}(h:rU f (w::ws) l=true):∃ a r,l=a::r/\f w a=true/\a.sure=true/\rU f ws r=true:=by
 induction l using aeC with
 |nil=>exact aX h
 |cons a r=> refine ae (aei.mp h) ?_;clear h;intro W b;refine ae (aei.mp W) ?_;clear W;intro c d;exact (p8 a r rfl c d b)
theorem GV{f:ael->O->Bool}(b:∀ v a,f v a=true->VR T α N v a):∀ {l:List O},rU f ws l=true->ah T α N ws l:=by
 induction ws with
 |nil=>intro l q;rw[aiv.mp q];exact .nil
 |cons w ws W=> intro l q;refine eJ (Fj q) ?_;clear q;intro a r c d g e;subst c;exact .cons (b _ _ d) (W e)
theorem EG{f:ael->O->Bool}:∀ {l:List O},rU f ws l=true->ae1 l=true/\ws.length=l.length:=by
 induction ws with
 |nil=>intro l q;rw[aiv.mp q];exact ⟨rfl,rfl⟩
 |cons w ws W=> intro l q;refine eJ (Fj q) ?_;clear q;intro a r c h d b;subst c;refine ae (W b) ?_;clear W b;intro e g;exact ⟨aei.mpr ⟨d,e⟩,congrArg (·+1) g⟩
noncomputable def kv1 (K:afV) (d:ael->O->Bool) (v:ael) (a:O):Bool:=O.casesOn (motive_1:=λW=>Bool) a (v ==.none) (λb=>v ==.bool b) (λi=>aD false (MX v) λj=>decide (i=j)) (λx=>aD false (MY v) λy=>and (x ==y) (afp x))
 (λl=>aD false (Ci v) λc=>aD false (lE K c) λo=>aD false (MZ o.data) λe=>and (and (o.cls ==.type "tuple") (o.dict ==none)) (rU d e.toList l)) (λW=>false) (λW W=>false) (λW=>false) (λb=>aD false (Ci v) λc=>aew b c) (λW W=>false) (λW W=>false) (λW W=>false) false (λW=>false)
noncomputable def kv (K:afV) (n:Nat):ael->O->Bool:=af6 (motive:=λW=>ael->O->Bool) (λW W=>false) (λW a=>kv1 K a) n
theorem Jp{K:afV}(m:T.K=K){n}:∀ {v a},kv K n v a=true->VR T α N v a:=by
 induction n with
 |zero=>exact λh=>nomatch h
 |succ n o=>
  intro v a h;induction a using O.casesOn with
  |none=>rw[show v=.none from beq_iff_eq.mp h];exact .none
  |bool b=>rw[show v=.bool b from beq_iff_eq.mp h];exact .bool _
  |int i=>
   refine Y (aR h nofun) ?_;clear h;intro j e h;refine aL (VD e) ?_;intro t W;subst W;rw[of_decide_eq_true h];exact .int _ _
  |str x=>
   refine Y (aR h nofun) ?_;clear h;intro y e h;refine aL (VE e) ?_;intro t W;subst W;refine ae (aei.mp h) λd f=>?_
   rw[←beq_iff_eq.mp d];exact .str _ f
  |glob b=>
   refine Y (aR h nofun) ?_;clear h;intro c e h;rw[Gc e,aem h];exact .glob _
  |tup l=>
   refine Y (aR h nofun) ?_;clear h;intro c e h;refine Y (aR h nofun) ?_;clear h;intro W p h;obtain⟨q,r,s,u⟩:=W;refine Y (aR h nofun) ?_;clear h;intro w g h;refine ae (aei.mp h) λd f=>?_
   refine ae (aei.mp d) ?_;clear d;intro z A;refine aL (VF g) ?_;clear g;intro k B;have C:q=_:=beq_iff_eq.mp z;have D:r=_:=beq_iff_eq.mp A;have E:s=_:=B;subst C D E;rw[Gc e];exact .tupK (vs:=w.toList) (n:=k) (sl:=u) (by rw[aiF,m];exact w9 p) (GV (λF F=>o) f)
  |_=>exact aX h
theorem Gd{α:Type}{v:α}:∀ {l:List (Str×α)},bw x l=some v->(x,v)∈l:=by
 intro l h;rw[sI]at h;exact lookup_mem h
theorem Fk:jw x l=true->x∈l:=by
 induction l with
 |nil=>exact λh=>nomatch h
 |cons a l b=>
  intro h;have W:(aex (motive:=λc=>Bool) (jw x l) true (seq a x))=true:=h
  induction q:seq a x using aen with
  |true=>rw[gG.mp q];exact .head _
  |false=>rw[q]at W;exact .tail _ (b W)
noncomputable def Cj (K:afV):Bool:=Ah.all λe=>match nsIn K afa e.1 with
 |some (some val)=>kv K 6 val e.2
 |_=>false
noncomputable def Jq(K:afV):Bool:=Gb.all λx=>nsIn K afa x ==some none&&!(x =="__name__")
noncomputable def Jr (K:afV):Bool:=(oE.all λe=>keepIn K (.ref e.1))&&sD.all λe=>keepIn K (.ref e.1)
noncomputable def Js (K:afV):Bool:=vT.all λe=>e.2.all λp=>ajv K e.1 p.1&&(ags K (.ref e.1) p.1 ==some (some (.ref p.2)))&&isFn K (.ref p.2)&&(lk p.2 oE).isSome
noncomputable def Ck (K:afV):Bool:=sC.all λe=>e.2.all λx=>ajv K e.1 x&&hasDictIn K e.1&&(match ags K (.ref e.1) x with|some W=>noGet K W|none=>false)&&
 (ags K (.ref e.1) "__setattr__" ==some (some (.builtin "object.__setattr__")))&&plainOver K e.1&&(takerIn K e.1 x ==some none)
noncomputable def Jt (K:afV):Bool:=sD.all λe=>makesIn K e.1&&(ags K (.ref e.1) "__init__" ==some (some (.ref e.2)))&&isFn K (.ref e.2)
noncomputable def Ju (fd:aJ):Bool:=(fd.params.all λx=>fd.scope.names.lookup x ==some .local ||fd.scope.names.lookup x ==some .cell)&&!fd.scope.isCoroutine&&!fd.scope.isGenerator&&decide (fd.scope.kind=.function)&&decide ((afO 0 fd.scope.names []).map (·.1)).Nodup&&decide (fd.scope.names.map (·.1)).Nodup
noncomputable def Dn(fd:aJ)(a:ael)(b:Str):Bool:=match fd.code with
 |none=>true
 |some x=>a ==.ref x.1&&(b++".<locals>." :Str) ==x.2
noncomputable def yS (K:afV) (l:List O) (a:List ael):Bool:=rU (kv K 6) a l
theorem Xe{K:afV}(b:T.K=K){a:List ael}(h:yS K l a=true):ah T α N a l:=GV (λW W=>Jp b) h
theorem Rz{K:afV}{a:List ael}(h:yS K l a=true):ae1 l=true:=(EG h).1
theorem ah.Zn (h:ah T α N vs l):ae1 l=true->∀ n,ah T α N (vs.drop n) (l.drop n)/\ae1 (l.drop n)=true:=
 ah.ind (P:=λvs l=>ae1 l=true->∀ n,ah T α N (vs.drop n) (l.drop n)/\ae1 (l.drop n)=true) (λW n=>by rw[List.drop_nil,List.drop_nil];exact⟨.nil,rfl⟩) (λh r a p n=>by induction n using aeI with
   |zero=>exact⟨.cons h r,p⟩
   |succ n=>exact a (gB p).2 n) (λW W W W=>iu) (λW W W=>iu) h
theorem ah.adb (h:ah T α N vs l):ae1 l=true->∀ a:List Str,aU T α N (a.zip vs) (a.zip l):=
 ah.ind (P:=λvs l=>ae1 l=true->∀ a:List Str,aU T α N (a.zip vs) (a.zip l)) (λW a=>by rw[List.zip_nil_right,List.zip_nil_right];exact .nil) (λh W b p a=>by induction a using aeC with
   |nil=>exact .nil
   |cons q a=>exact .cons h (b (gB p).2 a)) (λW W W W=>iu) (λW W W=>iu) h
theorem RA:ae1 (l++r)=true↔ae1 l=true/\ae1 r=true:=by unfold ae1;rw[List.all_append,afd]
noncomputable def uk(K:afV)(a:ael):List Value:=match a with
 |.ref c=>(match lE K c with
  |some ⟨b,d,.seq W e,f⟩=>W.toList
  |_=>[])
 |_=>[]
theorem TG(h:mr fd a=some b):a.length<=fd.params.length/\fd.params.length<=a.length+fd.di.length:=by
 by_cases c:a.length<=fd.params.length/\fd.params.length<=a.length+fd.di.length
 ·exact c
 ·exact nomatch(if_neg c).symm.trans h
noncomputable abbrev um:=Option ((FuncBody×afC×ael×aez×List (Str×aez)×aez)×Bool×((Nat->ael)->Setting->List (Option (List (Str×ael)×List Str×Bool))))
noncomputable def GW{a:Type}(z:a)(d:Data)(f:ahG->a):a:=match d with
 |.func W=>f W
 |_=>z
noncomputable def Jv{a:Type}(z:a)(d:Data)(f:ClassData->a):a:=match d with
 |.cls W=>f W
 |_=>z
theorem RC{a:Type}{z y₀:a}{f:ahG->a}(h:GW z d f=y₀)(b:y₀≠z):∃ fd,d=.func fd/\f fd=y₀:=by induction d using aia with
 |func fd=>exact⟨fd,rfl,h⟩
 |_=>exact absurd h.symm b
theorem TH{a:Type}{z y₀:a}{f:ClassData->a}(h:Jv z d f=y₀)(b:y₀≠z):∃ fd,d=.cls fd/\f fd=y₀:=by induction d using aia with
 |cls fd=>exact⟨fd,rfl,h⟩
 |_=>exact absurd h.symm b
noncomputable abbrev lF(f:Nat->ael)(n:Nat):List Value:=(af2 n).map f
noncomputable def Od (K:afV) (D:aJ) (fd:ahG):Bool:=and (codeIn K fd.code fd.qualname) (and (Dn D fd.code fd.qualname) (yS K D.di (uk K fd.defaults)))
noncomputable def fnS (K:afV)(D:aJ)(fd:ahG)(f:Nat->ael)(S:Setting):List (Option (List (Str×ael)×List Str×Bool)):=(af2 (D.di.length+1)).map λj=>
 (peek K S (agL fd ⟨lF f (D.params.length-j),[]⟩)).map λb=>(b.take (D.params.length-j),(b.drop (D.params.length-j)).map (·.1),(b.drop (D.params.length-j)).map (·.2) ==(uk K fd.defaults).drop ((uk K fd.defaults).length-j))
noncomputable def xa (K:afV) (e:Nat×aJ):um:=aD none (lE K e.1) λo=>GW none o.data λW=>some ((W.body,W.scope,o.cls,W.globals,W.closure,W.builtins),Od K e.2 W,fnS K e.2 W)
noncomputable def xb (e:Nat×aJ):um:=some ((.stmts e.2.body,e.2.scope,.type "function",afa,[],agP),true,λf W=>(af2 (e.2.di.length+1)).map λj=>some ((e.2.params.take (e.2.params.length-j)).zip (lF f (e.2.params.length-j)),e.2.params.drop (e.2.params.length-j),true))
theorem Xf{l:List (Str×ael)}{a:List Str}{vs b:List ael}{n:Nat}(c:l.take n=(a.take n).zip vs)(d:(l.drop n).map (·.1)=a.drop n)(f:(l.drop n).map (·.2)=b)(g:vs.length=(a.take n).length):l=a.zip (vs++b):=by
 have e:l.drop n=(a.drop n).zip b:=by rw[←d,←f,List.zip_map'];exact (List.map_id _).symm
 rw[←List.take_append_drop n l,c,e,←List.zip_append g.symm,List.take_append_drop]
inductive Zo (K:afV) (a:Nat) (D:aJ):Prop
 |mk (name qual:Str) (params:Arguments) (dV kV doc pm:ael) (an:Option aez) (dD ct:ael) (od km) (ho:lE K a=some ⟨.type "function",od,.func (fnOf name qual params D.body D.scope dV kV doc pm an dD ct),km⟩) (h1:Od K D (fnOf name qual params D.body D.scope dV kV doc pm an dD ct)=true) (h2:∀ j,j<D.di.length+1->∀ f S,peek K S (agL (fnOf name qual params D.body D.scope dV kV doc pm an dD ct) ⟨lF f (D.params.length-j),[]⟩)=some (D.params.zip (lF f (D.params.length-j)++(uk K dV).drop ((uk K dV).length-j))))
theorem Zp{fd:ahG}{a:ael}{D:aJ}(h:(fd.body,fd.scope,a,fd.globals,fd.closure,fd.builtins)=(.stmts D.body,D.scope,.type "function",afa,[],agP)):a=.type "function" /\fd=fnOf fd.name fd.qualname fd.params D.body D.scope fd.defaults fd.kwdefaults fd.doc fd.pyModule fd.annotations fd.code fd.closureTuple:=by
 obtain⟨name,W,params,body,scope,b,c,d,e,f,g,i,j,k,l⟩:=fd
 cases h
 exact⟨rfl,rfl⟩
theorem bind_eq{o:Option (List (Str×ael))}{D:aJ}{f:Nat->ael}{n:Nat}{a:List ael}(h:o.map (λb=>(b.take n,(b.drop n).map (·.1),(b.drop n).map (·.2) ==a))=some ((D.params.take n).zip (lF f n),D.params.drop n,true)) (c:n<=D.params.length):o=some (D.params.zip (lF f n++a)):=by
 refine Y (af8.mp h) ?_;clear h;intro l W q;subst W;refine ae (ae8 q) ?_;clear q;intro d q;refine ae (ae8 q) ?_;clear q;intro e g;refine congrArg some (Xf d e (beq_iff_eq.mp g) ?_);rw[ahr,List.length_range,List.length_take,Nat.min_eq_left c]
theorem GY{K:afV}{a:Nat}{D:aJ}(h:xa K (a,D)=xb (a,D)):Zo K a D:=by
 refine Y (aR h nofun) ?_;clear h;intro o b h;obtain ⟨p,d,dt,g⟩:=o;refine Y (RC h nofun) ?_;clear h;intro W e h;refine ae (ae8 (aej h)) ?_;clear h;intro i k;refine ae (ae8 k) ?_;clear k;intro l m;refine ae (Zp i) ?_;clear i;intro c n;have c:p=_:=c;have b:lE K a=some ⟨.type "function",d,.func (fnOf W.name W.qualname W.params D.body D.scope W.defaults W.kwdefaults W.doc W.pyModule W.annotations W.code W.closureTuple),g⟩:=by rw[←c,←n];exact (show dt=.func W from e)▸b
 rw[n]at l m;exact ⟨_,_,_,_,_,_,_,_,_,_,d,g,b,l,λj q f S=>bind_eq (aim.mp (congrFun (congrFun m f) S) j (agO.mpr q)) (Nat.sub_le _ _)⟩
theorem Xg{D:aJ}{a:ael}{b:Str}(h:Dn D a b=true) (x:aez×Str) (e:D.code=some x):a=.ref x.1/\(b++".<locals>." :Str)=x.2:=by
 unfold Dn at h;rw[e]at h;refine ae (aei.mp h) ?_;clear h;intro W c;exact⟨beq_iff_eq.mp W,beq_iff_eq.mp c⟩
theorem TJ{K:afV}{a:Nat}{D:aJ}{F:ahG}{c:List ael}{W:Wd}(p:W.K=K) (d:yS K D.di c=true) (q:∀ j,j<D.di.length+1->∀ f S,peek K S (agL F ⟨lF f (D.params.length-j),[]⟩)=some (D.params.zip (lF f (D.params.length-j)++c.drop (c.length-j)))):Fw W F D:=by
 subst p;intro g e b r t h i k;have u:c.length=D.di.length:=(EG d).2;have l:=h.len i;have m:=TG k
 cases EW k
 refine aL (toL (vals:=g) l) ?_;clear l;intro f v;have n:=ah.Zn (Xe (T:=W.kt) (α:=r) (N:=t) rfl d) (Rz d) (c.length-(D.params.length-e.length));refine (ay (D.params.zip (g++c.drop (c.length-(D.params.length-e.length)))) ?_ (λs X=>kp_binds X λS=>?_))
 ·rw[←u];exact ah.adb (h.app n.1) (by rw[RA];exact ⟨i,n.2⟩) _
 ·have o:=q (D.params.length-e.length) (ahw (Nat.sub_le_of_le_add (Nat.add_comm _ _▸m.2))) f S;rw[Nat.sub_sub_self m.1]at o;rw[v];exact o
theorem TK{a:aez}{D:aJ}(h:xa W.K (a,D)=xb (a,D)) (b:Ju D=true):∃ q c,tO W a D q c:=by
 obtain⟨k,l,params,m,n,o,p,r,s,t,u,v,w,d,y⟩:=GY h;refine ae (aei.mp d) ?_;clear d;intro z e;refine ae (aei.mp e) ?_;clear e;intro A B;refine ae (aei.mp b) ?_;clear b;intro f s6;refine ae (aei.mp f) ?_;clear f;intro g s5;refine ae (aei.mp g) ?_;clear g;intro i s4;refine ae (aei.mp i) ?_;clear i;intro j s3;refine ae (aei.mp j) ?_;clear j;intro s1 s2;exact⟨l,s,⟨k,params,m,n,o,p,t,_,r,u,v,w9 w,TJ (a:=a) rfl B y⟩,z,Xg A,λx C=>((afT _ _).mp (aeK.mp s1 x C)).imp beq_iff_eq.mp beq_iff_eq.mp,(aeT _).mp s2,(aeT _).mp s3,of_decide_eq_true s4,of_decide_eq_true s5,of_decide_eq_true s6⟩
noncomputable def uo:List Nat:=[52,64,76,88,100]
noncomputable abbrev uq:=Option ((ael×List ael×Bool×Bool×Nat×Option (Option ael))×Option (Option ael)×Option (Option ael)×Option (Option ael)×Option (Option ael)×Bool)
noncomputable def Jw (K:afV) (C:Nat):uq:=aD none (lE K C) λo=>Jv none o.data λW=>some ((o.cls,W.mro,W.hasDict,W.hasDel,o.slots.size,o.slots[4]?),ags K (.ref C) "__init__",ags K (.ref C) "__setattr__",ags K (.ref C) "message",ags K (.ref C) "spot",and (isFn K (.ref 36)) (keepIn K (.ref C)))
noncomputable def Jx (C:Nat):uq:=some ((.type "type",[.ref C,.ref 39,.type "Exception",.type "BaseException",.type "object"],true,false,6,some (some (.builtin i6))),some (some (.ref 36)),some (some (.builtin "object.__setattr__")),some none,some none,true)
theorem rV{α:Type}{l:List α}(h:l.length=n+1):∃ a r,l=a::r/\r.length=n:=by
 induction l using aeC with
 |nil=>exact absurd h (ajG n).symm
 |cons a r=>exact⟨a,r,rfl,af0 h⟩
theorem six{α:Type}{l:List α}(h:l.length=6):∃ a b c d e f,l=[a,b,c,d,e,f]:=by
 refine be (rV h) ?_;intro a n q W;subst q;refine be (rV W) ?_;intro b o q g;subst q;refine be (rV g) ?_;intro c p q i;subst q;refine be (rV i) ?_;intro d r q j;subst q;refine be (rV j) ?_;intro e s q k;subst q;refine be (rV k) ?_;intro f l6 q m;subst q;rw[agn.mp m];exact (RX a b c d e f rfl)
theorem Zq (h:(o.cls,a.mro,a.hasDict,a.hasDel,o.slots.size,o.slots[4]?)=(.type "type",[.ref C,.ref 39,.type "Exception",.type "BaseException",.type "object"],true,false,6,some (some (.builtin i6)))) (e:o.data=.cls a): ∃ k0 k1 k2 k3 k5,o=ahb a.name a.qualname C a.ns a.bases [.ref 39,.type "Exception",.type "BaseException",.type "object"] true a.slotNames a.subclasses a.abstract a.collection o.dict k0 k1 k2 k3 k5 i6:=by
 obtain⟨j,k,dt,l⟩:=o;obtain⟨m,n,p,N,q,r,sn,sub,s,t,dl⟩:=a;obtain⟨l⟩:=l;refine ae (ae8 h) ?_;clear h;intro b h;refine ae (ae8 h) ?_;clear h;intro c h;refine ae (ae8 h) ?_;clear h;intro d h;refine ae (ae8 h) ?_;clear h;intro f h;refine ae (ae8 h) ?_;clear h;intro W g;refine RU (six W) ?_;clear W;intro k0 k1 k2 k3 u k5 i;subst i
 cases b;cases c;cases d;cases f;cases e;cases g
 exact⟨k0,k1,k2,k3,k5,rfl⟩
theorem ade{K:afV}{C:aez}(h:Jw K C=Jx C):m4 K C 36/\keepIn K (.ref C)=true:=by
 refine Y (aR h nofun) ?_;clear h;intro o W h;refine Y (TH h nofun) ?_;clear h;intro q e h;refine ae (ae8 (aej h)) ?_;clear h;intro a h;refine ae (ae8 h) ?_;clear h;intro b h;refine ae (ae8 h) ?_;clear h;intro c h;refine ae (ae8 h) ?_;clear h;intro d h;refine ae (ae8 h) ?_;clear h;intro f h;refine ae (aei.mp h) ?_;clear h;intro g i;refine Um (Zq (C:=C) a e) ?_;clear a e;intro j k l m n p;rw[p]at W;exact⟨⟨⟨_,_,_,_,_,_,_,_,_,_,j,k,l,m,n,w9 W,⟨by kernel_rfl,by kernel_rfl,by kernel_rfl,by kernel_rfl⟩,by kernel_rfl,by kernel_rfl⟩,b,c,d,f,g⟩,i⟩
noncomputable def ur:aJ:=dM 2 0 [.int 0] none
noncomputable def lY:List (Nat×Nat):=[(817,813),(148,146),(394,392),(304,302)]
noncomputable def ji:List (Nat×Nat):=[(139,136)]
noncomputable def yg:List Nat:=[52,76,88,100]
noncomputable def M0 (K:afV):Bool:=yg.all λC=>exmAny K (.ref C) [.ref 52,.ref 76,.ref 88,.ref 100] ==some true
noncomputable def allB (K:afV):Bool:=and (and (and (and (M0 K) (Cj K)) (Jq K)) (and (Jr K) (Js K))) (and (and (Ck K) (Jt K)) (and (and (kg K) (ji.all λp=>tD K p.1 "turn" p.2)) (and (lY.all λp=>ju K p.1 p.2) (and (nsIn K afa "Exception" ==some none) (noTabs K)))))
noncomputable def obs (K:afV):Bool×List um×List uq:=(allB K,((36,ur)::oE).map (xa K),uo.map (Jw K))
noncomputable def val:Bool×List um×List uq:=(true,((36,ur)::oE).map xb,uo.map Jx)
structure KX where
 K:afV
 ok:obs K=val
noncomputable def jM (prog:ae9)(w:afq)(sl:KX)(a:Nat->Nat->O)(cond:Nat->Bool)(src:List (aez×List ael))(os:afw):Wd:=⟨prog,w,⟨sl.K,a,cond,src,kY⟩,cP,os⟩
set_option backward.match.sparseCases false
end
section
variable{W:Wd}{G:Gm}
set_option backward.match.sparseCases true
structure GX (W:Wd):Prop where
 g:W.G=cP
 xc:∀ C∈uo,m4 W.K C 36/\keepIn W.K (.ref C)=true
 lend:sU W 36
 turn:(ji.all λp=>tD W.K p.1 "turn" p.2)=true
 hd:(lY.all λp=>ju W.K p.1 p.2)=true
 bm:kg W.K=true
 bY:W.kt.bY=kY
noncomputable def dt{a:Type}(b:Bool) (z:a) (f:b=true->a):a:=aex (motive:=λb=>(b=true->a)->a) (λG=>z) (λf=>f rfl) b f
noncomputable def dS{α a:Type}(o:Option α) (z:a) (f:∀ v,o=some v->a):a:=ae2 (motive:=λo=>(∀ v,o=some v->a)->a) (λG=>z) (λv f=>f v rfl) o f
theorem nt(h:(!b)=true):b=false:=(aeT _).mp h
section
variable(W G)
noncomputable abbrev RE(e:aeM):={c:Ev // JE W G e c}
noncomputable abbrev RT(e:aeM):={c:Tc // JT W G e c}
noncomputable abbrev RV(e:List aeM):={c:ec // JV W G e c}
noncomputable abbrev RS(s:afD):={c:Sc // JS W G s c}
noncomputable abbrev RB(s:List afD):={c:Sc // JB W G s c}
noncomputable abbrev RG(e:aeM):={c:Tg // JG W G e c}
noncomputable abbrev RN(x:Str):={c:Tg // JN W G x c}
noncomputable abbrev RI(t e:aeM):={c:iW // JI W G t e c}
end
noncomputable def Oe:ec:=λG G=>.no
noncomputable def lZ:Tg:=λG G G=>.no
theorem adf:JV W G l Oe:=λa a a a a a h b=>bO h b
theorem uu:JG W G e lZ:=λa a a a a a a h b=>bO h b
theorem M1:JN W G x lZ:=λa a a a a a a h b=>bO h b
noncomputable def eN:RE W G e:=⟨jH,jNo⟩
noncomputable def tN:RT W G e:=⟨N2,acj⟩
noncomputable def sN:RS W G s:=⟨g0,oZ⟩
structure Hn where
 st:Bool
 fits:Bool
 vars:List Str
noncomputable def aW:Hn:=⟨false,false,[]⟩
noncomputable def adg:Hn:=⟨true,false,[]⟩
noncomputable def adh:Hn:=⟨false,true,[]⟩
noncomputable def uv(l:List Str):Hn:=⟨false,false,l⟩
variable(W G)in
structure Cm where
 e:Bool->(x:aeM)->RE W G x
 t:(x:aeM)->RT W G x
 g:(x:aeM)->RG W G x
 s:(x:afD)->RS W G x
section
variable(m:Cm W G)
noncomputable def ee (st:Bool) (l:List aeM):RV W G l:=aeL (motive:=λl=>RV W G l) ⟨aI,A6⟩ (λa r b=>dt (!aeH a) ⟨Oe,adf⟩ λh=>⟨bg (m.e st a).1 b.1,qx (nt h) (m.e st a).2 b.2⟩) l
noncomputable def cB (l:List afD):RB W G l:=aeL (motive:=λl=>RB W G l) ⟨aF,HM⟩ (λa r b=>⟨eQ (m.s a).1 b.1,v8 (m.s a).2 b.2⟩) l
noncomputable def gT (x:Str) (l:List (Str×afv)):Nat:=aeL 0 (λp G m=>aex (afk m) 0 (p.1 ==x)) l
noncomputable def pH (G:Gm)(x:Str)(k:afv):Bool:=G.names[gT x G.names]? ==some (x,k)
theorem qy (h:pH G x k=true):G.names[gT x G.names]?=some (x,k):=beq_iff_eq.mp h
variable(gx:GX W)
include gx
theorem ve(h:cP.name x=some v):W.G.name x=some v:=gx.g▸h
theorem jN(h:cP.boot x=true):W.G.boot x=true:=gx.g▸h
omit gx
noncomputable def Dp(a:Nat):Bool:=(cP.fn a).isSome ||(cP.init a).isSome
include gx
theorem Dr(h:Dp a=true):((W.G.fn a).isSome ||(W.G.init a).isSome)=true:=gx.g▸h
omit gx
noncomputable def yh (x:Str):List Nat:=sC.filterMap λp=>aex none (some p.1) (jw x p.2)
noncomputable def Ds(x:Str):Bool:=(yh x).all λC=>cP.attr C x
include gx
theorem Of(h:Ds x=true):((yh x).all λC=>W.G.attr C x)=true:=gx.g▸h
omit gx
noncomputable def uw (x:Str):List (Nat×Nat):=vT.filterMap λp=>(bw x p.2).map λf=>(p.1,f)
noncomputable def Og(x:Str):Bool:=(uw x).all λp=>cP.cu p.1 x ==some p.2
include gx
theorem Oh(h:Og x=true):((uw x).all λp=>W.G.cu p.1 x ==some p.2)=true:=gx.g▸h
noncomputable def Bc (x:Str) (p:Pos):RE W G (.Name x p):=dt (pH G x .local) (dt (A5 G.names (gT x G.names) x) (dt (cg G.names x) eN λm=>dS (cP.name x) eN λv a=>⟨cC v,jGl m (ve gx a)⟩)
 λh=>⟨aA (gT x G.names),acm h⟩) λh=>⟨J (gT x G.names),ack (qy h)⟩
omit gx
noncomputable def cN (x:Str):RN W G x:=dt (pH G x .local) (dt (pH G x .cell) ⟨lZ,M1⟩ λh=>⟨fe (gT x G.names),YU (qy h)⟩) λh=>dt (!G.bA) ⟨lZ,M1⟩ λm=>⟨aq (gT x G.names),YT (qy h) (nt m)⟩
noncomputable def Dt (x:Str) (p:Pos):RG W G (.Name x p):=dt (pH G x .local) (dt (pH G x .cell) ⟨lZ,uu⟩ λh=>⟨fe (gT x G.names),YW (qy h)⟩) λh=>dt (!G.bA) ⟨lZ,uu⟩ λm=>⟨aq (gT x G.names),YV (qy h) (nt m)⟩
noncomputable def Du (l:List aeM):Option {g:iT // jG W G l g}:=aeL (motive:=λl=>Option {g:iT // jG W G l g}) (some ⟨bL,WU⟩) (λa r b=>dS b none λv c=>dt (!aeH a) none λh=>some ⟨aV (m.g a).1 v.1,Vv (nt h) (m.g a).2 v.2⟩) l
noncomputable def Oi (l:List Str):{g:iT // rK W G l g}:=aeL (motive:=λl=>{g:iT // rK W G l g}) ⟨bL,WV⟩ (λa r m=>⟨aV (cN a).1 m.1,Vx (cN a).2 m.2⟩) l
structure BP(W:Wd)(G:Gm)where
 v:ael
 p:Prim
 ok:JP W G.d v p
include gx
noncomputable def rW (p:BP W G) (st:Bool) (x:Str) (a:Pos) (l:List aeM) (pos:Pos):RE W G (.Call (.Name x a) l [] pos):=dt (!l.any aeH) eN λb=>dt (cg G.names x) eN λc=>dt (cP.boot x) eN λd=>dt (ah4 x ==some p.v) eN λe=>dt (noRef p.v) eN λf=>
 ⟨aQ p.p (ee m st l).1,YN p.ok (nt b) c (jN gx d) (beq_iff_eq.mp e) f (ee m st l).2⟩
omit gx
theorem VG (e:(n ==("isinstance" :Str))=true) (a:(b ==("tuple" :Str))=true) (c:aeH x=false) (d:cg G.names ("isinstance" :Str)=true) (f:cg G.names ("tuple" :Str)=true) (g:W.G.boot "isinstance" =true) (h:W.G.boot "tuple" =true) (i:JE W G x j):
 JE W G (.Call (.Name n k) [x,.Name b l] [] pos) (sS j):=by obtain rfl:=beq_iff_eq.mp e;obtain rfl:=beq_iff_eq.mp a;exact WT c d f g h i
theorem RD (e:(n ==("dict" :Str))=true) (c:(d ==("zip" :Str))=true) (f:aeH a=false) (g:aeH b=false) (h:cg G.names ("dict" :Str)=true) (i:cg G.names ("zip" :Str)=true) (j:W.G.boot "dict" =true) (k:W.G.boot "zip" =true)
 (l:JE W G a c1) (o:JE W G b c2):JE W G (.Call (.Name n p) [.Call (.Name d q) [a,b] [] r] [] s) (pZ c1 c2):=by obtain rfl:=beq_iff_eq.mp e;obtain rfl:=beq_iff_eq.mp c;exact TB f g h i j k l o
noncomputable def bps (x:Str):Option (BP W G):=(([("len",⟨_,_,YO⟩),("tuple",⟨_,_,Vr⟩),("int",⟨_,_,WR⟩),("sorted",⟨_,_,Tv⟩),("all",⟨_,_,YP⟩),("str",⟨_,_,YQ⟩)]:List (Str×BP W G)).find? λq=>x ==q.1).map (·.2)
include gx
noncomputable def Dv (st:Bool) (x:Str) (a:Pos) (l:List aeM) (pos:Pos):RE W G (.Call (.Name x a) l [] pos):=ae2 eN (λp=>rW m gx p false x a l pos) (bps (W:=W) (G:=G) x)
noncomputable def adi (st:Bool) (x:Str) (a:Pos) (l:List aeM) (pos:Pos):RE W G (.Call (.Name x a) l [] pos):=aex (rW m gx ⟨_,_,Vs⟩ false x a l pos) (rW m gx ⟨_,_,Vt⟩ false x a l pos) st
noncomputable def cB2 (x:Str) (c:Pos) (a b:aeM) (pos:Pos):RE W G (.Call (.Name x c) [a,b] [] pos):=match b with
 |.Name n d=>dt (n ==("tuple" :Str)) (rW m gx ⟨_,_,F8⟩ false x c [a,.Name n d] pos) λe=>dt (x ==("isinstance" :Str)) eN λf=>dt (!aeH a) eN λg=>dt (cg G.names "isinstance") eN λh=>dt (cg G.names "tuple") eN λi=>dt (cP.boot "isinstance") eN λj=>dt (cP.boot "tuple") eN λk=> ⟨sS (m.e false a).1,VG f e (nt g) h i (jN gx j) (jN gx k) (m.e false a).2⟩
 |b=>rW m gx ⟨_,_,F8⟩ false x c [a,b] pos
noncomputable def cDz (x y:Str) (c d:Pos) (a b:aeM) (e pos:Pos):RE W G (.Call (.Name x c) [.Call (.Name y d) [a,b] [] e] [] pos):=dt (x ==("dict" :Str)) eN λf=>dt (y ==("zip" :Str)) eN λg=>dt (!aeH a) eN λh=>dt (!aeH b) eN λi=>dt (cg G.names "dict") eN λj=>dt (cg G.names "zip") eN λk=>
 dt (cP.boot "dict") eN λl=>dt (cP.boot "zip") eN λn=>⟨pZ (m.e false a).1 (m.e false b).1,RD f g (nt h) (nt i) j k (jN gx l) (jN gx n) (m.e false a).2 (m.e false b).2⟩
noncomputable def VH(e:aeM):Bool:=match e with
 |.Attribute m n G=>n ==("methods" :Str)
 |_=>false
noncomputable def cBc (st:Bool) (x:Str) (c:Pos) (l:List aeM) (pos:Pos):RE W G (.Call (.Name x c) l [] pos):=match l with
 |[a]=>aex (aex (Dv m gx st x c [a] pos) (match a with
  |.Call (.Name y d) [e,f] [] g=>cDz m gx x y c d e f g pos
  |_=>eN) (x ==("dict" :Str))) (aex (adi m gx st x c [a] pos) (rW m gx ⟨_,_,Vy⟩ false x c [a] pos) (VH a)) (x ==("list" :Str))
 |[a,b]=>aex (Dv m gx st x c [a,b] pos) (cB2 m gx x c a b pos) (x ==("isinstance" :Str))
 |l=>Dv m gx st x c l pos
noncomputable def Zr:List Str:=["regions_of","elided","check_regions","type_of","is_told","trait_of","bounds_of","erased","substituted","with_regions","fields_of","field_types","whole_of","told_types","is_like","check_methods","check_rules","names_within","_law_fn","_law_program","_law_sig_right","_law_types_right","_law_rest_right","_law_generics"]
noncomputable def Zs:List Str:=["find","names","told_type","check_params","trait_of_impl","is_field_seen"]
noncomputable def Oj (x:Str) (e:Pos) (a:Nat) (l:List aeM) (pos:Pos) (b:cP.name x=some (.glob a)) (r:RV W G l):RE W G (.Call (.Name x e) l [] pos):=dt (!l.any aeH) eN λm=>dt (cg G.names x) eN λc=>dt (Dp a) eN λd=>
 aex ⟨az G.call a r.1,WO (nt m) c (ve gx b) (Dr gx d) r.2⟩ ⟨az (bc G.call) a r.1,Vq (nt m) c (ve gx b) (Dr gx d) r.2⟩ (jw x Zr)
noncomputable def dG{b:Type}(v:O)(z:b)(f:∀ a,v=.glob a->b):b:=match v with
 |.glob a=>f a rfl
 |_=>z
noncomputable def cNc (st:Bool) (x:Str) (b:Pos) (l:List aeM) (pos:Pos):RE W G (.Call (.Name x b) l [] pos):=aex (dt (!l.any aeH) eN λc=>dt ([136,274].all λa=>(cP.fn a).isSome) eN λd=>⟨oh G.call [136,274] (Bc gx x b).1 (ee m false l).1,W7 (nt c) (by rw [gx.g];exact d) (Bc gx x b).2 (ee m false l).2⟩)
 (ae2 (motive:=λo=>cP.name x=o->RE W G (.Call (.Name x b) l [] pos)) (λf=>cBc m gx st x b l pos) (λv h=>dG v eN λa e=>Oj gx x b a l pos (e▸h) (ee m false l)) (cP.name x) rfl) (cg G.names x)
omit gx
structure MB (W:Wd) (G:Gm) (name:Str) where
 T:String
 id:String
 ty:Tr->O->Bool
 p:Prim
 h1:rL W T ty
 h2:PlainAttrs T
 h3:Slot T name id
 h4:typeOf (.builtin id)=pure (.type "method_descriptor")
 h5:JP W G.d (.builtin id) p
noncomputable def mbs (x:Str):Option (MB W G x):=
 dt (x ==("append" :Str)) (dt (x ==("extend" :Str)) (dt (x ==("pop" :Str)) (dt (x ==("get" :Str)) (dt (x ==("startswith" :Str)) (dt (x ==("join" :Str)) (dt (x ==("count" :Str)) none λh=>some ⟨_,_,_,_,tyT,PySem.F.plainAttrs_tuple,beq_iff_eq.mp h▸ajA,by kernel_rfl,Vu⟩) λh=>some ⟨_,_,_,_,N3,ajN,beq_iff_eq.mp h▸ajO,by kernel_rfl,WS⟩) λh=>some ⟨_,_,_,_,N3,ajN,beq_iff_eq.mp h▸ajc,by kernel_rfl,Tz⟩) λh=>some ⟨_,_,_,_,tyD,PySem.F.plainAttrs_dict,beq_iff_eq.mp h▸aiy,by kernel_rfl,YS⟩) λh=>some ⟨_,_,_,_,C6,aik,beq_iff_eq.mp h▸PySem.F.slot_list_pop,by kernel_rfl,YR⟩) λh=>some ⟨_,_,_,_,C6,aik,beq_iff_eq.mp h▸ajy,by kernel_rfl,Tx⟩) λh=>some ⟨_,_,_,_,C6,aik,beq_iff_eq.mp h▸PySem.F.slot_list_append,by kernel_rfl,Tw⟩
noncomputable def Ol (o:aeM) (x:Str) (a:Pos) (l:List aeM) (pos:Pos):Bool:=and (eI o) (and (!l.any aeH) (and (sg l) (a.endLine ==pos.line)))
theorem iC (h:Ol o x a l pos=true):eI o=true/\l.any aeH=false/\sg l=true/\(a.endLine ==pos.line)=true:=by
 refine ae (aei.mp h) ?_;clear h;intro m h;refine ae (aei.mp h) ?_;clear h;intro G h;refine ae (aei.mp h) ?_;clear h;intro W b;exact (j6 m (nt G) W b)
include gx
noncomputable def cMc (o:aeM) (x:Str) (a:Pos) (l:List aeM) (pos:Pos):RE W G (.Call (.Attribute o x a) l [] pos):=dt (Ol o x a l pos) eN λh=>aex (dt (Og x) eN λb=>aex ⟨a9 G.call (uw x) x (m.e false o).1 (ee m false l).1,YK rfl (iC h).1 (iC h).2.1 (iC h).2.2.1 (iC h).2.2.2 (Oh gx b) (m.e false o).2 (ee m false l).2⟩ ⟨a9 (bc G.call) (uw x) x (m.e false o).1 (ee m false l).1,WQ rfl (iC h).1 (iC h).2.1 (iC h).2.2.1 (iC h).2.2.2 (Oh gx b) (m.e false o).2 (ee m false l).2⟩ (jw x Zs))
 (ae2 eN (λq=>⟨bT q.ty q.p (m.e false o).1 (ee m false l).1,jMB q.h1 q.h2 q.h3 q.h4 q.h5 (iC h).1 (iC h).2.1 (iC h).2.2.1 (iC h).2.2.2 (m.e false o).2 (ee m false l).2⟩) (mbs (W:=W) (G:=G) x)) (uw x).isEmpty
noncomputable def cAt (o:aeM) (x:Str) (pos:Pos):RE W G (.Attribute o x pos):=dt (eI o) eN λh=>dt (x ==("turn" :Str)) (dt (Ds x) eN λa=>⟨aw (yh x) x (m.e false o).1,YJ rfl h (Of gx a) (m.e false o).2⟩) λa=>⟨vZ ji x (m.e false o).1,W8 rfl h (by rw[beq_iff_eq.mp a];exact gx.turn) (m.e false o).2⟩
omit gx
noncomputable def cDs (a:List (Option aeM)):(vs:List aeM)->Option {p:List Str×ec // JD W G a vs p.1 p.2}:=aeL (motive:=λa=>(vs:List aeM)->Option {p:List Str×ec // JD W G a vs p.1 p.2}) (λvs=>match vs with
 |[]=>some ⟨([],aI),Y9⟩
 |_=>none) (λk b c vs=>match k,vs with
 |some (.Constant (.str x) d e),v::vs=>dS (c vs) none λq b=>dt (afp x) none λh=>some ⟨(x::q.1.1,bg (m.e false v).1 q.1.2),W5 rfl h (m.e false v).2 q.2⟩
 |_,_=>none) a
noncomputable def cDi (a:List (Option aeM)) (vs:List aeM) (pos:Pos):RE W G (.Dict a vs pos):=match a,vs with
 |[],[]=>⟨et,W6⟩
 |a,vs=>dt (!G.bA) eN λh=>dS (cDs m a vs) eN λq c=>dt (A7 a vs q.1.1) eN λb=>⟨hV q.1.1 q.1.2,Za (nt h) b q.2⟩
theorem Xh (q:(n ==("range" :Str))=true) (a:aeH e=false) (b:cg G.names ("range" :Str)=true) (c:W.G.boot "range" =true) (d:JE W G e f):JI W G t (.Call (.Name n g) [e] [] pos) (iP f):=by obtain rfl:=beq_iff_eq.mp q;exact Y6 a b c d
theorem Xi (q:(n ==("reversed" :Str))=true) (a:aeH e=false) (b:cg G.names ("reversed" :Str)=true) (c:W.G.boot "reversed" =true) (d:JE W G e f):JI W G t (.Call (.Name n g) [e] [] pos) (rk f):=by obtain rfl:=beq_iff_eq.mp q;exact Y7 a b c d
include gx
noncomputable def cI (t it:aeM):RI W G t it:=match it with
 |.Call (.Name x d) [e] [] f=>dt (!aeH e) ⟨_,oy eN.2⟩ λh=>dt (x ==("range" :Str)) (dt (x ==("reversed" :Str)) ⟨_,oy (m.e false (.Call (.Name x d) [e] [] f)).2⟩ λa=>dt (cg G.names "reversed") ⟨_,oy eN.2⟩ λb=>dt (cP.boot "reversed") ⟨_,oy eN.2⟩ λc=>⟨rk (m.e false e).1,Xi a (nt h) b (jN gx c) (m.e false e).2⟩) λa=>dt (cg G.names "range") ⟨_,oy eN.2⟩ λb=>dt (cP.boot "range") ⟨_,oy eN.2⟩ λc=>⟨iP (m.e false e).1,Xh a (nt h) b (jN gx c) (m.e false e).2⟩
 |it=>⟨cy (m.e false it).1,oy (m.e false it).2⟩
omit gx
end
noncomputable def adj (e:aeM):Bool:=match e with
 |.Call (.Name x G) W a b=>(x ==("enumerate" :Str)) ||(x ==("zip" :Str))
 |_=>false
noncomputable def yi (a:List (Str×afv)) (e:aeM):CT:=match e with
 |.Tuple [.Name x G,.Name y W] b c=>.two (gT x a) (gT y a)
 |.Name x G=>.one (gT x a)
 |_=>.one 0
noncomputable def m7 (sc a:List (Str×afv)):List (Nat×Nat):=(af2 sc.length).filterMap λi=>aD none sc[i]? λq=>aex none (some (i,gT q.1 a)) (q.2 ==.free)
structure CpR (W:Wd) (G:Gm) (elt t it:aeM) (ifs:List aeM) (sc:afC) where
 i:RI W G t it
 ts:{c:Tc // pA W (G.g5 sc) ifs c}
 c:RE W (G.g5 sc) elt
 h1:G.bA=false
 h2:hJ it=true
 h3:rN sc=true
 h4:rM sc t (yi sc.names t)=true
 h5:uW ifs.isEmpty ifs=true
 h6:jI sc.names G.names (m7 sc.names G.names)=true
noncomputable def cTs (m:Cm W G)(a:List aeM):Option {c:Tc // pA W G a c}:=match a with
 |[]=>some ⟨bo,W2⟩
 |[e]=>some ⟨(m.t e).1,W3 (m.t e).2⟩
 |_=>none
noncomputable def Om (gx:GX W) (m:Cm W G) (c:∀ G,Cm W G) (d t a:aeM) (b:List aeM) (sc:afC):Option (CpR W G d t a b sc):=dt (!adj a) none λe=>dS (cTs (c (G.g5 sc)) b) none λf e=>dt (!G.bA) none λg=>dt (hJ a) none λh=>dt (rN sc) none λi=>dt (rM sc t (yi sc.names t)) none λj=>dt (uW b.isEmpty b) none λk=>
 dt (jI sc.names G.names (m7 sc.names G.names)) none λl=>some ⟨cI m gx t a,f,(c (G.g5 sc)).e false d,nt g,h,i,j,k,l⟩
section
variable(gx:GX W)(hn:Hn)(m:Cm W G)(ih:∀ G,Cm W G)
include gx
noncomputable def cLc (st:Bool) (a:aeM) (b:List Comprehension) (sc:afC) (pos:Pos):RE W G (.ListComp a b sc pos):=match b with
 |[⟨t,d,c,0⟩]=>ae2 eN (λq=>⟨bP st (yi sc.names t) c.isEmpty (m7 sc.names G.names) q.i.1 q.ts.1 q.c.1,Y8 q.h1 q.h2 q.h3 q.h4 q.h5 q.h6 q.i.2 q.ts.2 q.c.2⟩) (Om gx m ih a t d c sc)
 |_=>eN
omit gx
noncomputable def cBo (st:Bool) (op:BoolOp) (l:List aeM) (pos:Pos):RE W G (.BoolOp op l pos):=match op,l with
 |op,[x]=>⟨(m.e st x).1,jB1 (m.e st x).2⟩
 |.And,x::z::r=>⟨oN (m.e false x).1 (m.e false (.BoolOp .And (z::r) pos)).1,acu (m.e false x).2 (m.e false (.BoolOp .And (z::r) pos)).2⟩
 |.Or,x::z::r=>⟨lN (m.e false x).1 (m.e false (.BoolOp .Or (z::r) pos)).1,jOr (m.e false x).2 (m.e false (.BoolOp .Or (z::r) pos)).2⟩
 |a,[]=>eN
noncomputable def cSb (o i:aeM) (pos:Pos):RE W G (.Subscript o i pos):=match i with
 |.Slice none (some u) none p=>⟨qF (m.e false o).1 (m.e false u).1,YL (m.e false o).2 (m.e false u).2⟩
 |.Slice (some u) none none p=>⟨qG (m.e false o).1 (m.e false u).1,YM (m.e false o).2 (m.e false u).2⟩
 |i=>dt (qr i) eN λh=>⟨af (m.e false o).1 (m.e false i).1,acv h (m.e false o).2 (m.e false i).2⟩
noncomputable def cBi (st:Bool)(a:aeM)(op:Operator)(b:aeM)(pos:Pos):RE W G (.BinOp a op b pos):=match op with
 |.Add=>⟨bb st (m.e false a).1 (m.e false b).1,acw (m.e false a).2 (m.e false b).2⟩
 |.Mult=>⟨ud (m.e false a).1 (m.e false b).1,acx (m.e false a).2 (m.e false b).2⟩
 |.Sub=>⟨w6 (m.e false a).1 (m.e false b).1,Zk (m.e false a).2 (m.e false b).2⟩
 |_=>eN
noncomputable def cLi (st:Bool)(a:List aeM)(pos:Pos):RE W G (.List a pos):=aex ⟨aY (ee m false a).1,jHl (ee m false a).2⟩ ⟨eh (ee m false a).1,HL (ee m false a).2⟩ (st&&(a.isEmpty ||hn.st))
include gx
noncomputable def cE (st:Bool) (e:aeM):RE W G e:=match e with
 |.Constant j z c=>dS (Ar j) eN λa h=>⟨cC a,jC h⟩
 |.Name x c=>Bc gx x c
 |.IfExp t a b c=>⟨bC (m.t t).1 (m.e st a).1 (m.e st b).1,acn (m.t t).2 (m.e st a).2 (m.e st b).2⟩
 |.Compare a n p c=>(match n,p with
  |[d],[b]=>dt (!afH d b) eN λh=>⟨c6 d (m.e false a).1 (m.e false b).1,aco (nt h) (m.e false a).2 (m.e false b).2⟩
  |_,_=>eN)
 |.UnaryOp d x c=>(match d with
  |.Not=>⟨Bt (m.e false x).1,acr (m.e false x).2⟩
  |.USub=>⟨iM (m.e false x).1,acs (m.e false x).2⟩
  |_=>eN)
 |.BoolOp d l c=>cBo m st d l c
 |.Tuple g k c=>⟨ai (ee m st g).1,Mi (ee m st g).2⟩
 |.List g c=>cLi hn m st g c
 |.Attribute o x c=>cAt m gx o x c
 |.Subscript o i c=>cSb m o i c
 |.BinOp a d b c=>cBi m st a d b c
 |.Dict q r c=>cDi m q r c
 |.ListComp s u sc c=>cLc gx m ih st s u sc c
 |.Call f l v c=>(match v with
  |[]=>(match f with
   |.Name x w=>cNc m gx st x w l c
   |.Attribute o x y=>cMc m gx o x y l c
   |_=>eN)
  |_=>eN)
 |_=>eN
omit gx
theorem RF (q:(n ==("values" :Str))=true) (b:eI o=true) (c:(d.endLine ==e.line)=true) (f:JE W G a g) (h:JE W G o i):JT W G (.Compare a [.In] [.Call (.Attribute o n d) [] [] e] pos) (sA g i):=by obtain rfl:=beq_iff_eq.mp q;exact TA b c f h
noncomputable def inK (hn:Hn) (b:aeM):Nat:=match b with
 |.Attribute m n G=>aex (aex 0 2 hn.fits) 1 (n ==("done" :Str))
 |.Call (.Attribute m n G) [] [] W=>aex 0 3 (n ==("values" :Str))
 |_=>aex 0 2 hn.fits
noncomputable def cIn (a b:aeM) (pos:Pos):RT W G (.Compare a [.In] [b] pos):=dt (!afH .In b) tN λh=>match inK hn b with
 |0=>⟨au .In (m.e false a).1 (m.e false b).1,HK (nt h) (m.e false a).2 (m.e false b).2⟩
 |1=>⟨xO (m.e false a).1 (m.e false b).1,Zc (nt h) (m.e false a).2 (m.e false b).2⟩
 |2=>⟨xI (m.e false a).1 (m.e false b).1,Y2 (nt h) (m.e false a).2 (m.e false b).2⟩
 |_=>(match b with
  |.Call (.Attribute o n c) [] [] d=>dt (n ==("values" :Str)) tN λe=>dt (eI o) tN λf=>dt (c.endLine ==d.line) tN λg=>⟨sA (m.e false a).1 (m.e false o).1,RF e f g (m.e false a).2 (m.e false o).2⟩
  |_=>tN)
noncomputable def cT (e:aeM):RT W G e:=match e with
 |.UnaryOp op x c=>(match op with
  |.Not=>⟨fc (m.t x).1,YF (m.t x).2⟩
  |_=>tN)
 |.BoolOp op l c=>(match op,l with
  |.And,[]=>⟨bo,WN⟩
  |.Or,[]=>⟨dQ,Vp⟩
  |.And,x::r=>⟨c8 (m.t x).1 (m.t (.BoolOp .And r c)).1,YG (m.t x).2 (m.t (.BoolOp .And r c)).2⟩
  |.Or,x::r=>⟨bI (m.t x).1 (m.t (.BoolOp .Or r c)).1,acq (m.t x).2 (m.t (.BoolOp .Or r c)).2⟩)
 |.Compare a d f c=>(match d,f with
  |[op],[b]=>(match op with
   |.In=>cIn hn m a b c
   |op=>dt (!afH op b) tN λh=>⟨au op (m.e false a).1 (m.e false b).1,HK (nt h) (m.e false a).2 (m.e false b).2⟩)
  |_,_=>tN)
 |e=>dt (zX e) tN λh=>⟨cH (m.e false e).1,acp h (m.e false e).2⟩
noncomputable def cG (e:aeM):RG W G e:=match e with
 |.Name x a=>Dt x a
 |.Tuple b k a=>ae2 ⟨lZ,uu⟩ (λg=>⟨cD b.length g.1,YX (afI _) g.2⟩) (Du m b)
 |_=>⟨lZ,uu⟩
noncomputable def Oo (x:Sem (Option (List Str))):Option (Option (List Str)):=match x with
 |.pure o=>some o
 |_=>none
theorem Xj (h:Oo x=some o):x=pure o:=by induction x using Sem.casesOn with
 |pure m=>rw[aej (h:some m=some o)];rfl
 |_=>exact aT h
noncomputable def Oq(x:Sem Bool):Bool:=match x with
 |.pure b=>b
 |_=>false
theorem Xk(h:Oq x=true):x=pure true:=by induction x using Sem.casesOn with
 |pure b=>rw[show b=true from h];rfl
 |_=>exact aX h
noncomputable def yj(e:aeM):Bool:=match e with
 |.Tuple ..=>true
 |_=>false
noncomputable def adk (a:List aeM) (k:Nat) (b:Pos) (e:aeM) (p:Pos):RS W G (.Assign [.Tuple a k b] e p):=dt (!eK e) sN λc=>dt (!G.bA) sN λd=>dS (Oo (ag4 [.Tuple a k b] e (m5 G.names))) sN λo f=>ae2 (motive:=λo=>ag4 [.Tuple a k b] e (m5 G.names)=pure o->RS W G (.Assign [.Tuple a k b] e p))
 (λh=>⟨aC (m.g (.Tuple a k b)).1 (m.e (yj e) e).1,YY (nt c) (nt d) h (m.g (.Tuple a k b)).2 (m.e (yj e) e).2⟩)
 (λl h=>dt (l ==nT a) sN λg=>⟨aC (ff (nT a).length (Oi (nT a).reverse).1) (m.e (yj e) e).1,YZ (nt c) (nt d) (by rw [h,beq_iff_eq.mp g]) (afI _) (Oi (nT a).reverse).2 (m.e (yj e) e).2⟩) o (Xj f)
noncomputable def yT(hn:Hn)(x:Str)(e:aeM):Bool:=match e with
 |.List [] m=>true
 |.List ..=>jw x hn.vars
 |.ListComp ..=>jw x hn.vars
 |.BinOp ..=>jw x hn.vars
 |_=>hn.st
include gx
noncomputable def adl (st:Bool) (x:Str) (a:Pos) (b:aeM) (d:List Comprehension) (sc:afC) (pos p:Pos):RS W G (.Assign [.Name x a] (.ListComp b d sc pos) p):=match d with
 |[⟨t,e,c,0⟩]=>ae2 sN (λq=>dt (Oq (aiw (.ListComp b [⟨t,e,c,0⟩] sc pos) (some (.Name x a)) p.line (m5 G.names))) sN λh=>⟨la st (yi sc.names t) c.isEmpty (m7 sc.names G.names) q.i.1 q.ts.1 q.c.1 (Dt x a).1,W4 q.h1 (Xk h) q.h2 q.h3 q.h4 q.h5 q.h6 q.i.2 q.ts.2 q.c.2 (Dt x a).2⟩) (Om gx m ih b t e c sc)
 |_=>sN
noncomputable def adm (x:Str) (c:Pos) (e:aeM) (p:Pos):RS W G (.Assign [.Name x c] e p):=match e with
 |.ListComp d f sc a=>adl gx m ih (yT hn x (.ListComp d f sc a)) x c d f sc a p
 |.List b a=>aex ⟨aC (cN x).1 (m.e false (.List b a)).1,xM rfl (cN x).2 (m.e false (.List b a)).2⟩ ⟨aC (cN x).1 (eh (ee m false b).1),xM rfl (cN x).2 (HL (ee m false b).2)⟩ (yT hn x (.List b a))
 |e=>dt (!eK e) sN λh=>⟨aC (cN x).1 (m.e (yT hn x e) e).1,xM (nt h) (cN x).2 (m.e (yT hn x e) e).2⟩
noncomputable def cAs (t e:aeM) (p:Pos):RS W G (.Assign [t] e p):=match t with
 |.Name x a=>adm gx hn m ih x a e p
 |.Tuple b k a=>adk m b k a e p
 |.Attribute o x a=>dt (!eK e) sN λh=>dt (Ds x) sN λc=>⟨bk (yh x) x (m.e false o).1 (m.e true e).1,WW rfl (nt h) (Of gx c) (m.e false o).2 (m.e true e).2⟩
 |.Subscript o i a=>aex ⟨bX (m.e false e).1 (m.e false o).1 (m.e false i).1,acy (m.e false e).2 (m.e false o).2 (m.e false i).2⟩ ⟨wU (m.e false e).1 (m.e false o).1 (m.e false i).1,Y1 (m.e false e).2 (m.e false o).2 (m.e false i).2⟩ hn.fits
 |_=>sN
omit gx
theorem Xl (q:(n ==("range" :Str))=true) (hn:G.bA=false) (a:aeH e=false) (b:cg G.names ("range" :Str)=true) (c:W.G.boot "range" =true) (d:JE W G e f) (g:JG W G target h) (i:JB W G body j):
 JS W G (.For target (.Call (.Name n k) [e] [] l) body [] pos) (qJ h f j):=by obtain rfl:=beq_iff_eq.mp q;exact Y3 hn a b c d g i
theorem VJ{e elts kk d body m f g pos a b c}(q:(m ==("enumerate" :Str))=true) (hn:G.bA=false) (h:aeH e=false) (i:cg G.names ("enumerate" :Str)=true) (j:W.G.boot "enumerate" =true) (k:JE W G e b) (l:jG W G elts a) (n:JB W G body c):
 JS W G (.For (.Tuple elts kk d) (.Call (.Name m f) [e] [] g) body [] pos) (oa (cD elts.length a) b c):=by obtain rfl:=beq_iff_eq.mp q;exact WX hn h i j (afI _) k l n
theorem Xm{a b elts kk e body m f g pos c c1 c2 d}(q:(m ==("zip" :Str))=true) (hn:G.bA=false) (h:aeH a=false) (i:aeH b=false) (j:cg G.names ("zip" :Str)=true) (k:W.G.boot "zip" =true) (l:JE W G a c1) (n:JE W G b c2) (o:jG W G elts c) (p:JB W G body d):
 JS W G (.For (.Tuple elts kk e) (.Call (.Name m f) [a,b] [] g) body [] pos) (qN (cD elts.length c) c1 c2 d):=by obtain rfl:=beq_iff_eq.mp q;exact Y4 hn h i j k (afI _) l n o p
noncomputable def adn (a:aeM) (b:List afD):Nat:=match a with
 |.Call (.Name x m) [G] [] W=>aex (aex 0 2 (x ==("enumerate" :Str))) 1 (x ==("range" :Str))
 |.Call (.Name x m) [G,W] [] c=>aex 0 3 (x ==("zip" :Str))
 |.BinOp ..=>(match b with
  |[.Expr m G]=>4
  |_=>0)
 |_=>0
include gx
noncomputable def Ot (t a:aeM) (b:List afD) (pos:Pos) (d:RB W G b):RS W G (.For t a b [] pos):=dt (!G.bA) sN λh=>match adn a b with
 |0=>dt (hJ a) sN λc=>⟨du (m.g t).1 (m.e false a).1 d.1,acz (nt h) c (m.e false a).2 (m.g t).2 d.2⟩
 |1=>(match a with
  |.Call (.Name x p) [e] [] q=>dt (x ==("range" :Str)) sN λj=>dt (!aeH e) sN λc=>dt (cg G.names "range") sN λf=>dt (cP.boot "range") sN λi=>⟨qJ (m.g t).1 (m.e false e).1 d.1,Xl j (nt h) (nt c) f (jN gx i) (m.e false e).2 (m.g t).2 d.2⟩
  |_=>sN)
 |2=>(match t,a with
  |.Tuple l k r,.Call (.Name x p) [e] [] q=>dS (Du m l) sN λg s=>dt (x ==("enumerate" :Str)) sN λj=>dt (!aeH e) sN λc=>dt (cg G.names "enumerate") sN λf=>dt (cP.boot "enumerate") sN λi=>⟨oa (cD l.length g.1) (m.e false e).1 d.1,VJ j (nt h) (nt c) f (jN gx i) (m.e false e).2 g.2 d.2⟩
  |_,_=>sN)
 |3=>(match t,a with
  |.Tuple l k r,.Call (.Name x p) [n,o] [] q=>dS (Du m l) sN λg s=>dt (x ==("zip" :Str)) sN λj=>dt (!aeH n) sN λc=>dt (!aeH o) sN λu=>dt (cg G.names "zip") sN λf=>dt (cP.boot "zip") sN λi=>⟨qN (cD l.length g.1) (m.e false n).1 (m.e false o).1 d.1,Xm j (nt h) (nt c) (nt u) f (jN gx i) (m.e false n).2 (m.e false o).2 g.2 d.2⟩
  |_,_=>sN)
 |_=>(match t,b with
  |.Name x v,[.Expr e w]=>dt (hJ a) sN λc=>dt (pH G x .local) sN λf=>dt (!eK e) sN λi=>⟨wM (gT x G.names) (m.e false a).1 (m.e false e).1,Y5 (nt h) c (qy f) (nt i) (m.e false a).2 (m.e false e).2⟩
  |_,_=>sN)
noncomputable def cRa (x:Str) (b:Pos) (l:List aeM) (c pos:Pos):RS W G (.Raise (some (.Call (.Name x b) l [] c)) none pos):=dS (cP.name x) sN λv d=>dG v sN λC e=>dt (uo.contains C) sN λa=>dt (!l.any aeH) sN λf=>dt (cg G.names x) sN λg=>
 ⟨cz C (ee m false l).1,W9 (gx.xc C (aiz.mp a)).1 gx.lend (gx.xc C (aiz.mp a)).2 (nt f) g (ve gx (e▸d)) (ee m false l).2⟩
noncomputable def cS (s:afD):RS W G s:=match s with
 |.Return o d=>(match o with
  |some e=>⟨aG (m.e false e).1,Mj (m.e false e).2⟩
  |none=>⟨wk,YH⟩)
 |.Pass d=>⟨aF,YI⟩
 |.Expr e d=>dt (!eK e) sN λh=>⟨bq (m.e false e).1,Y0 (nt h) (m.e false e).2⟩
 |.If t a b d=>⟨aB (m.t t).1 (cB m a).1 (cB m b).1,jIf (m.t t).2 (cB m a).2 (cB m b).2⟩
 |.While t b o d=>(match o with
  |[]=>dt (!G.bA) sN λh=>⟨n8 (m.t t).1 (cB m b).1,WY (nt h) (m.t t).2 (cB m b).2⟩
  |_=>sN)
 |.For t f b o d=>(match o with
  |[]=>Ot gx m t f b d (cB m b)
  |_=>sN)
 |.Assign g e d=>(match g with
  |[t]=>cAs gx hn m ih t e d
  |_=>sN)
 |.Raise e c d=>(match e,c with
  |some (.Call (.Name x i) l [] j),none=>cRa gx m x i l j d
  |_,_=>sN)
 |_=>sN
end
noncomputable def cm (gx:GX W) (c:Hn) (n:Nat):∀ G,Cm W G:=af6 (motive:=λa=>∀ G,Cm W G) (λa=>⟨λa a=>eN,λa=>tN,λa=>⟨lZ,uu⟩,λa=>sN⟩) (λa b G=>⟨λst e=>cE gx c (b G) b st e,λe=>cT c (b G) e,λe=>cG (b G) e,λs=>cS gx c (b G) b s⟩) n
noncomputable def fuel:Nat:=nat_lit 40
section
variable(gx:GX W)(m:Cm W G)
noncomputable def Ou (l:List afD):(i:Nat)->(∀ s,l[i]?=some s->RS W G s)->RB W G l:=aeL (motive:=λl=>(i:Nat)->(∀ s,l[i]?=some s->RS W G s)->RB W G l) (λc c=>⟨aF,HM⟩)
 (λs r b i a=>ais (motive:=λi=>(∀ t,(s::r)[i]?=some t->RS W G t)->RB W G (s::r)) i (λa=>⟨eQ (a s rfl).1 (cB m r).1,v8 (a s rfl).2 (cB m r).2⟩) (λi a=>⟨eQ (m.s s).1 (b i a).1,v8 (m.s s).2 (b i a).2⟩) a) l
include gx
theorem Ov (h:lY.contains (c,P)=true):ju W.K c P=true:=aeK.mp gx.hd (c,P) (aiz.mp h)
omit gx
theorem bindL{sc:afC}(h:(a.arg ==("region" :Str))=true) (name c d e f g v):agL (kla_fn name c ⟨[],[a],none,[],[],none,[]⟩ b sc d e f g) ⟨[v],[]⟩=pure [(a.arg,v)]:=by
 obtain ⟨x,m,p⟩:=a;obtain rfl:x=("region" :Str):=beq_iff_eq.mp h;kernel_rfl
theorem Zt{sc:afC}(h:(x ==("region" :Str))=true) (name a c d e f g v):agL (fnX name a ⟨[],[⟨x,none,i⟩],none,[],[],none,[]⟩ b sc c .none .none d e none f g) ⟨[v],[]⟩=pure [(x,v)]:=by
 obtain rfl:x=("region" :Str):=beq_iff_eq.mp h;kernel_rfl
include gx
noncomputable def Cn (e P id:Nat) (d:Arguments) (b:aeM) (sc:afC) (pos:Pos) (h:kY id=some ⟨"region",.expr b,sc⟩):RE W G (.Lambda d b sc pos):=match d with
 |⟨[],[a],none,[],[],none,[]⟩=>dS G.code eN λc f=>dt (!G.bA) eN λg=>dt (jI sc.names G.names (m7 sc.names G.names)) eN λi=>dt (ue sc) eN λj=>dt (lY.contains (c.1,P)) eN λk=>dt (a.arg ==("region" :Str)) eN λm=> ⟨mJ e P (c.2++"<lambda>") id (m7 sc.names G.names),acA (x:=a.arg) (nt g) i j f (Ov gx k) rfl gx.bm (by rw[gx.bY,beq_iff_eq.mp m];exact h) ⟨rfl,rfl⟩ (bindL m)⟩
 |_=>eN
noncomputable def Dw (f:Str) (b:Pos) (a e:aeM) (pos:Pos) (c:RE W G e):RE W G (.Call (.Name f b) [a,e] [] pos):=dt (!aeH a) eN λh=>dt (!aeH e) eN λd=>dS (cP.name f) eN λv i=>dG v eN λg q=>Oj gx f b g [a,e] pos (q▸i) ⟨bg (m.e false a).1 (bg c.1 aI),qx (nt h) (m.e false a).2 (qx (nt d) c.2 A6)⟩
noncomputable def Ow (i P id:Nat) (s:afD) (h:∀ x g f e a c b sc d pos p,s=.Assign [.Name x g] (.Call (.Name f e) [a,.Lambda c b sc d] [] pos) p->kY id=some ⟨"region",.expr b,sc⟩):RS W G s:=match s with
 |.Assign [.Name x g] (.Call (.Name f e) [a,.Lambda c b sc d] [] pos) p=>⟨aC (cN x).1 (Dw gx m f e a (.Lambda c b sc d) pos (Cn gx i P id c b sc d (h x g f e a c b sc d pos p rfl))).1,xM rfl (cN x).2 (Dw gx m f e a (.Lambda c b sc d) pos (Cn gx i P id c b sc d (h x g f e a c b sc d pos p rfl))).2⟩
 |_=>sN
omit gx
theorem Zu{f id P b c x name nm sc body pos q d e}{a:Arguments}(g:(nm ==name)=true) (h:G.bA=false) (i:jI sc.names G.names b=true) (j:ue sc=true) (k:G.code=some (d,q)) (l:ju W.K d P=true) (n:wW G.names name=true) (o:(q++name:Str)=c) (p:kg W.K=true) (r:W.kt.bY id=some ⟨x,.stmts body,sc⟩) (s:a.defaults=[]/\a.kw_defaults=[]) (t:∀ env,annTrees a none env=[]) (u:∀ name w y z A B C v,agL (fnX name w a body sc y .none .none z A none B C) ⟨[v],[]⟩=pure [(x,v)]) (D:JN W G name e):JS W G (.FunctionDef name a body [] none [] sc none nm pos) (ub f P c id b e):=by
 obtain rfl:=beq_iff_eq.mp g;exact acB h i j k l n o p r s t u D
include gx
noncomputable def cDf (b P id:Nat) (s:afD) (h:∀ name d body sc nm pos,s=.FunctionDef name d body [] none [] sc none nm pos->kY id=some ⟨"region",.stmts body,sc⟩):RS W G s:=match s with
 |.FunctionDef name ⟨[],[⟨m,none,n⟩],none,[],[],none,[]⟩ body [] none [] sc none nm pos=>dS G.code sN λc e=>dt (nm ==name) sN λf=>dt (!G.bA) sN λg=>dt (jI sc.names G.names (m7 sc.names G.names)) sN λi=>dt (ue sc) sN λj=>dt (lY.contains (c.1,P)) sN λk=>dt (m ==("region" :Str)) sN λa=>dt (wW G.names name) sN λl=> ⟨ub b P (c.2++name) id (m7 sc.names G.names) (cN name).1,Zu (x:=m) f (nt g) i j e (Ov gx k) l rfl gx.bm (by rw [gx.bY,beq_iff_eq.mp a];exact h _ _ _ _ _ _ rfl) ⟨rfl,rfl⟩ (λo=>rfl) (Zt a) (cN name).2⟩
 |_=>sN
noncomputable def ado (s:afD) (h:qT.body[4]?=some s):RS W G s:=match s,h with
 |.Return (some (.Tuple [c,.Call (.Name f i) [a,.Lambda e b sc g] [] j,d] k o)) p,h=>dt (!aeH c) sN λl=>dt (!aeH d) sN λn=>
  let r:=Dw gx m f i a (.Lambda e b sc g) j (Cn gx 1 146 0 e b sc g (by show pa (yc qT.body)=_;unfold yc;rw [h];rfl))
  ⟨aG (ai (bg (m.e false c).1 (bg r.1 (bg (m.e false d).1 aI)))),Mj (Mi (qx (nt l) (m.e false c).2 (qx rfl r.2 (qx (nt n) (m.e false d).2 A6))))⟩
 |_,_=>sN
noncomputable def adp (s:afD)(h:qW.body[1]?=some s):RS W G s:=Ow gx m 0 813 1 s λx c f d a g b sc i j p e=>by show pa (yd qW.body)=_;unfold yd;rw[h,e];rfl
noncomputable def adq (s:afD) (h:qV.body[6]?=some s):RS W G s:=match s,h with
 |.For t c (s0::r) [] p,h=>Ot gx m t c (s0::r) p (let a:=Ow gx m 2 392 2 s0 λx d f g a i b sc j k p e=>(by show pa (ye qV.body)=_;unfold ye;rw [h,e];rfl);⟨eQ a.1 (cB m r).1,v8 a.2 (cB m r).2⟩)
 |_,_=>sN
noncomputable def ads (s:afD)(h:qU.body[5]?=some s):RS W G s:=cDf gx 3 302 3 s λm a body sc b c e=>by show Cg (yf qU.body)=_;unfold yf;rw[h,e];rfl
end
noncomputable def FK(fd:aJ)(E:aM):Prop:=∀ W:Wd,GX W->k8 W fd E
noncomputable def wS (x:Str):Ev:=cC (.str x)
noncomputable def wI (i:Int):Ev:=cC (.int i)
noncomputable def bp (b:Bool):Ev:=cC (.bool b)
noncomputable def wZ:Ev:=cC .none
noncomputable def U (l:List Ev):ec:=aeL aI (λa W G=>bg a G) l
noncomputable def ag (l:List Sc):Sc:=aeL aF (λa W G=>eQ a G) l
theorem fK (a:Hn) (b:E.gV=fd.di:=by rfl) (c:xN fd E=true:=by kernel_rfl) (e:∀ (W:Wd) (gx:GX W) call d,(cB (cm gx a fuel ⟨fd.scope.names,call,d,fd.code,false⟩) fd.body).1=E.body call:=by intros;kernel_rfl):FK fd E:=λW gx=>wX b c λcall d=>e W gx call d▸(cB (cm gx a fuel ⟨fd.scope.names,call,d,fd.code,false⟩) fd.body).2
theorem yU (a:Hn) (i:Nat) (b:∀ {W:Wd}{G:Gm},GX W->Cm W G->∀ s,fd.body[i]?=some s->RS W G s) (c:E.gV=fd.di:=by rfl) (e:xN fd E=true:=by kernel_rfl) (f:∀ (W:Wd) (gx:GX W) call d,(Ou (cm gx a fuel ⟨fd.scope.names,call,d,fd.code,false⟩) fd.body i (b gx (cm gx a fuel ⟨fd.scope.names,call,d,fd.code,false⟩))).1=E.body call:=by intros;kernel_rfl):FK fd E:=
 λW gx=>wX c e λcall d=>f W gx call d▸(Ou (cm gx a fuel ⟨fd.scope.names,call,d,fd.code,false⟩) fd.body i (b gx (cm gx a fuel ⟨fd.scope.names,call,d,fd.code,false⟩))).2
set_option backward.match.sparseCases false
end
section
variable{W:Wd}{c:Cx W}{A:ae6}{d:Nat}
theorem qz:cA c A a g0:=λd d d d h W=>bO h W
theorem l3{x m:Int}(h:0<m):0<=x.fmod m/\x.fmod m<m:=⟨Int.fmod_nonneg_of_pos x h,Int.fmod_lt_of_pos x h⟩
theorem qX (a:0<=x) (b:x<2147483648):IntMulOk x y:=IntMulOk.of_left (intBits_le_64 (Int.le_trans (by decide) a) (aiL b (by decide)))
theorem TL (e:ak c) (q:aP c d A) (t:c.comp=none) (p:c.scope=oB.scope) (r:W.G.boot "int" =true){a b top:Int}(l:0<top) (E:0<=b) (F:b<2147483648) (k:lk 0 σ.loc=some (.ref i)) (u:lk 1 σ.loc=some (.int top)) (o:σ.st.get i=some (.list [.int a,.int b])) (G:cM i σ.mark=false) (S:Wf 10 σ.st) (H:i<1024):
  ∃ σ₂ x T f,cA c A (oB.body) (hW σ σ₂ x)/\0<=x/\x<top/\σ₂.st.get i=some (.list [.int T,.int f])/\0<=f/\f<2147483648:=by
 have g:c.scope.names[(0:Nat)]?=some (("source" :Str),NameKind.local):=by rw [p];kernel_rfl
 have w:c.scope.names[(1:Nat)]?=some (("top" :Str),NameKind.local):=by rw [p];kernel_rfl
 have I:c.scope.names[(2:Nat)]?=some (("drawn" :Str),NameKind.local):=by rw [p];kernel_rfl
 have s:c.scope.names[(3:Nat)]?=some (("int" :Str),ae5):=by rw [p];kernel_rfl
 have h:cJ "source" =true:=by kernel_rfl
 have z:cJ "top" =true:=by kernel_rfl
 have V:cJ "drawn" =true:=by kernel_rfl
 have L:c.scope.isGenerator=false:=by rw [p];kernel_rfl
 have M:c.scope.isCoroutine=false:=by rw [p];kernel_rfl
 have N:∀ {loc P lo mk}{v:AO}{n:Nat},(LS.put ⟨loc,P,σ.st,n,lo,mk⟩ i v).st.get i=some v:=fun{loc P lo mk v n}=>by
  show (Tr.set v 10 σ.st i).get i=_;rw [get_set S H H,if_pos rfl]
 by_cases Q:a>0
 ·have R:lk 0 ((2,O.int (a.fmod top))::σ.loc)=some (.ref i):=by rw [eD,if_neg (show ¬ (0:Nat)=2 by decide),k]
  have X:lk 1 ((2,O.int (a.fmod top))::σ.loc)=some (.int top):=by rw [eD,if_neg (show ¬ (1:Nat)=2 by decide),u]
  have Z:lk 2 ((2,O.int (a.fmod top))::σ.loc)=some (.int (a.fmod top)):=by rw [eD,if_pos rfl]
  refine (vm _ (a.fmod top) (a.fdiv top) b (BX (ifS (σ₂:=LS.put ⟨(2,O.int (a.fmod top))::σ.loc,σ.aK,σ.st,σ.n,σ.lo,σ.mark⟩ i (.list [.int (a.fdiv top),.int b])) ?_ ?_ qz) qz) ((l3 l).1) ((l3 l).2) N E F)
  ·exact Mp e q (decide_eq_true Q) (by kernel_rfl) (oA (j:=0) e g h k o rfl) fP
  ·refine w8 (ug e t (by kernel_rfl) I (qS e (Int.ne_of_gt l) (mK e (by kernel_rfl) s r (oA (j:=0) e g h k o rfl)) (f6 e w z u))) ?_
   refine w8 (Mr (j:=0) (i:=i) (a:=a) (b:=b) (x:=a.fdiv top) e (by decide) (HS e q t L M (Int.ne_of_gt l) (oA (j:=0) e g h R o rfl) (f6 e w z X)) (kS e g h) (λqa=>by rw [nP,R];rfl) o G) ?_
   exact BX (Mq (f6 e I V Z)) qz
 ·have B:(b*39373+7).fmod 2147483647<2147483648:=aiL (l3 (x:=b*39373+7) (m:=2147483647) (by decide)).2 (by decide)
  have C:0<=(b*39373+7).fmod 2147483647:=(l3 (by decide)).1
  generalize hbb:(b*39373+7).fmod 2147483647=f at C B;have D:(LS.put σ i (.list [.int a,.int f])).st.get i=some (.list [.int a,.int f]):=N;have m1:=qX (y:=39373) E F;have m2:=qX (y:=f) C B;refine (vm _ ((((f*f).fmod 2147483629).fdiv 32).fmod top) a f (w8 (N5 ?_ qz) (w8 (σ₂:=LS.put σ i (.list [.int a,.int f])) ?_ (BX (Mq ?_) qz))) ((l3 l).1) ((l3 l).2) D C B)
  ·exact Mp e q (decide_eq_false Q) (by kernel_rfl) (oA (j:=0) e g h k o rfl) fP
  ·refine Mr (j:=1) (i:=i) (a:=a) (b:=b) (x:=f) e (by decide) ?_ (kS e g h) (λqa=>by rw [nP,k];rfl) o G
   rw [←hbb];exact qS e (by decide) (mK e (by kernel_rfl) s r (w7 e (oz e m1 (oA (j:=1) e g h k o rfl) fP) fP)) fP
  ·exact qS e (Int.ne_of_gt l) (mK e (by kernel_rfl) s r (HS e q t L M (by decide) (qS e (by decide) (mK e (by kernel_rfl) s r (oz e m2 (oA (j:=1) e g h k D rfl) (oA (j:=1) e g h k D rfl))) fP) fP)) (f6 e w z u)
noncomputable def Bd (m:Nat) (f:Nat->Rs):Rs:=af6 (motive:=λd=>Rs) (f (nat_lit 0)) (λn c=>join (f (afk n)) c) m
theorem TM{f:Nat->Rs}(a:y≠.no):Bd m f=y->∀ r,r<=m->f r=y:=by
 induction m with
 |zero=>intro h r c;rw[Nat.le_zero.mp c];exact h
 |succ m d=>
  intro h r c;refine ae (md (show join (f (m+1)) (Bd m f)=y from h) a) ?_;clear h a;intro A W;rcases Nat.lt_or_eq_of_le c with q|q
  ·exact d W r (ail q)
  ·rw[q];exact A
theorem zA (h:xn v v=true):join (.ok v) (.ok v)=.ok v:=by
 show aN Rs.no (xn v v) (Rs.ok v)=_;rw[h];rfl
noncomputable def LS.bare(σ:LS):LS:=⟨[],σ.aK,σ.st,σ.n,σ.lo,σ.mark⟩
noncomputable def Jy:Sc:=λc d A=>aD .no (lk (nat_lit 0) c.loc) λa=>jg .no a λi=>aD .no (lk (nat_lit 1) c.loc) λb=>dU .no b λt=>afF (motive:=λd=>Rs) t (λn=>aD .no (c.st.get i) λo=>sF .no o λd=>
 aN .no (and (not (cM i c.mark)) (and (afu i c.n) (afu (nat_lit 0) n))) (Bd (ago n) λr=>A (.int (.ofNat r)) c.bare)) (λd=>.no)
noncomputable def AE(i n:Nat):List Nat:=(af2 n).filter λj=>j !=i
theorem zl:j∈AE i n↔j<n/\j≠i:=by unfold AE;rw[ah0,agO,bne_iff_ne]
open Classical in
theorem RH (hc : ak c) (hA : aP c d A) (hn : c.comp = none) (hs : c.scope = oB.scope) (hb : W.G.boot "int" = true) : cA c A (oB.body) Jy := by
  intro σ kn kr y h hy s α N E R hE Q cX cY
  refine Y (aR h hy) fun a0 l0 h0 => ?_
  refine Y (i3 h0 hy) ?_; clear h0; intro i bj h1; subst bj
  refine Y (aR h1 hy) fun b0 l1 h2 => ?_
  refine Y (jU h2 hy) ?_; intro t bj h3; subst bj
  induction t using afF with
  | negSucc => exact bO h3 hy
  | ofNat n =>
  refine Y (aR h3 hy) fun o0 hg h4 => ?_
  refine Y (vv h4 hy) ?_; clear h4; intro k bj h5; subst bj
  refine ae (aS h5 hy) fun tG h6 => ?_
  refine ae (aei.mp tG) fun rH tG => ?_
  refine ae (aei.mp tG) fun hi Dx => ?_
  have rH := (aeT _).mp rH
  have hi : i < σ.n := aer hi
  have Dx : 0 < n := aer Dx
  have adt := TM hy h6
  refine aH (R.obj i _ hi hg) fun ad ob lT hN jA => ?_
  refine sb jA.inv ?_; clear jA; intro a b t1 t2 nn bj b0 b1; subst bj
  have dv : i < 1024 := aet hi R.bD
  let dk : LS := ⟨σ.loc, σ.aK, Tr.set (.list [.int a, .int b]) 10 σ.st i, σ.n, σ.lo, AE i σ.n ++ σ.mark⟩
  have hY : ∀ j, j < σ.n → dk.st.get j = if j = i then some (.list [.int a, .int b]) else σ.st.get j := fun j hj => get_set R.wf dv (aet hj R.bD)
  have dq : SR c dk s α N := ⟨R.fr, R.aK, R.news, R.nodup, R.inj, fun j o hj e => by
    rw [hY j hj] at e
    by_cases q : j = i
    · rw [if_pos q] at e
      have bj := aej e; subst o
      exact (bB ad _ (q ▸ lT) hN (.list (vs := [.int a t1, .int b t2]) (.cons (.int _ _) (.cons (.int _ _) .nil))))
    · rw [if_neg q] at e
      exact R.obj j o hj e, R.all, R.hi, R.wf.set, R.bD, R.len, R.low, fun j hj => (aeQ.mp hj).elim (fun z => (zl.mp z).1) (R.bt j), R.gens, R.os, R.aZ⟩
  have wQ : cM i dk.mark = false := by
    induction q : cM i dk.mark using aen with
    | false => rfl
    | true =>
      rcases aeQ.mp (nQ q) with z | z
      · exact absurd rfl (zl.mp z).2
      · exact absurd z (iy rH)
  refine zf (TL hc hA hn hs hb (σ := dk) (i := i) (a := a) (b := b) (top := afB n) (aiQ.mpr Dx) b0 b1 l0 l1 (by rw [hY i hi, if_pos rfl]) wQ dq.wf dv) fun σ₂ x a' b' uf x0 x1 Zv b0' b1' => ?_
  have hx : ∃ r : Nat, x = afB r ∧ r ≤ ago n := by
    refine aL (Int.eq_ofNat_of_zero_le x0) ?_; clear x0; intro r bj; subst bj
    refine (ay r rfl ?_)
    exact Nat.le_pred_of_lt (aiQ.mp x1)
  refine Y hx ?_; clear hx; intro r bj hr; subst bj
  refine uf dk (fun u_ => .no) (fun v bu => eG (v = .int (.ofNat r) ∧ bu = σ₂) (.ok .none)) (.ok .none) (vr.trans (eC ⟨rfl, rfl⟩)) nofun s α N E dq (fun C e bu s' bG N' q => nomatch q) Q (fun bu s' bG N' q => nomatch q) fun v bu val s' bG N' q cw g hv => ?_
  refine ae (eg q nofun) fun bj u_ => ?_; obtain ⟨rfl, rfl⟩ := bj
  refine aL hv.inv ?_; clear hv; intro tv bj; subst bj
  have p := g.ge.pre
  have ge : Ge α N α N' := ⟨afJ _, g.ge.keep, fun u_ h => .inl h, g.ge.tab⟩
  have keep : ∀ (j : Nat) aj o, j ≠ i → α[j]? = some aj → (aj, o) ∈ N → (aj, o) ∈ N' := fun j aj o hj h1 h2 => (g.bf j (aeo _ (zl.mpr ⟨by have := vD h1; rw [R.len] at this; exact this, hj⟩))).2 aj o h1 h2
  refine cY _ σ.bare _ s' α N' (adt r hr) ?_ ?_ (.int _ _)
  · refine ⟨?_, R.aK, cw.news, cw.nodup, R.inj, fun j o hj e => ?_, fun a h => cw.all a (p.subset h), cw.hi, R.wf, R.bD, R.len, R.low, R.bt, cw.gens, cw.os, cw.aZ⟩
    · refine Y cw.fr fun m F hm => ?_
      exact (ay m F (by unfold NR; rw [hn]; intro n v e; exact aT e))
    · have e : σ.st.get j = some o := e
      have hj : j < σ.n := hj
      by_cases q : j = i
      · subst q
        rw [hg] at e
        have bj := aej e; clear e; subst o
        refine aH (cw.obj j _ (aet hi g.n) Zv) fun a2 o2 z1 z2 z3 => ?_
        refine be z3.inv ?_; intro uQ n2 bj r2; subst bj
        refine aH (jW r2 rfl) ?_; clear r2; intro w1 w2 bj v1 v2; subst bj
        refine aL v1.inv ?_; clear v1; intro u1 bj; subst bj
        refine aL v2.inv ?_; clear v2; intro u2 bj; subst bj
        exact (bB a2 _ (jd p z1 (by rw [R.len]; exact hi)) z2 (.src b0' b1'))
      · refine aH (R.obj j o hj e) fun a2 o2 z1 z2 z3 => ?_
        refine (bB a2 o2 z1 (keep j a2 o2 q z1 z2) (z3.wh ge fun hx j' d o3 h5 h6 e4 => keep j' d o3 (fun z => ?_) h5 h6))
        subst z
        refine eZ hx ?_; clear hx; intro C es bj; subst bj
        refine ir z3.inv fun j2 d2 es2 n2 u_ e5 h7 h8 u_ => ?_
        obtain rfl := af0 (e4.symm.trans e5)
        obtain rfl := aej (lT.symm.trans h7)
        exact absurd (congrArg Obj.cls (R.uniq hN h8)) (by show ¬ (agF "list" = agF "dict"); decide)
  · refine ⟨ge, aeD _, fun u_ u_ => rfl, aeD _, rfl, fun j aj o u_ h1 h2 nt => keep j aj o (fun z => ?_) h1 h2, fun j hj => ⟨rfl, fun aj o h1 h2 => keep j aj o (fun z => ?_) h1 h2⟩⟩
    · subst z
      exact nt _ rfl hg
    · subst z
      exact absurd hj (iy rH)
noncomputable def Jz:aM:=⟨2,[],[true,true],[],λc=>Jy⟩
theorem Zw:FK oB Jz:=by
 intro W gx;have a:k8 W oB ⟨2,[],[true,true],[],λb=>g0⟩:=wX rfl (by kernel_rfl) λk d=>Mh
 exact ⟨a.n,a.gV,a.Bu,a.LC,a.ra,a.Bv,a.cells,λcall d i c A e f g h b=>RH e f g h (jN gx (by kernel_rfl))⟩
end
noncomputable def JA:aM:=⟨1,[],[true],[],λk=>(ag [aC (aq 1) (af (J 0) (wI 0)),aB (au .Eq (J 1) (wS s0)) (ag [aG (bb false (aY (U [af (J 0) (wI 1)])) (az (bc k) 110 (U [af (J 0) (wI 3)])))]) aF,aB (au .In (J 1) (ai (U [wS s1,wS s2]))) (ag [aG (az (bc k) 110 (U [af (J 0) (wI 1)]))]) aF,aC (aq 2) (bC (au .Eq (J 1) (wS s3)) (af (J 0) (wI 1)) (bC (au .Eq (J 1) (wS s4)) (af (J 0) (wI 3)) (ai aI))),aC (aq 3) (bC (au .Eq (J 1) (wS s4)) (aQ sQ (U [af (J 0) (wI 2)])) (eh aI)),du (aq 4) (J 2) (ag [bq (bT c0 nR (J 3) (U [az (bc k) 110 (U [J 4])]))]),aG (J 3)])⟩
theorem Zx:FK HU JA:=fK adg
noncomputable def JC:aM:=⟨2,[],[true,false],[(1,some 1)],λk=>(ag [aC (aq 2) (af (J 0) (wI 0)),aB (au .Eq (J 2) (wS s0)) (ag [aC (aq 3) (oh k [136,274] (aA 1) (U [af (J 0) (wI 1)])),aG (ai (U [wS s0,J 3,af (J 0) (wI 2),az k 115 (U [af (J 0) (wI 3),aA 1])]))]) aF,aB (au .Eq (J 2) (wS s1)) (ag [aG (ai (U [wS s1,az k 115 (U [af (J 0) (wI 1),aA 1])]))]) aF,aB (au .Eq (J 2) (wS s2)) (ag [aG (ai (U [wS s2,az k 115 (U [af (J 0) (wI 1),aA 1]),af (J 0) (wI 2)]))]) aF,aB (au .Eq (J 2) (wS s3)) (ag [aG (ai (U [wS s3,aQ bJ (U [bP false (.one 1) true [(3,1)] (cy (af (J 0) (wI 1))) bo (az k 115 (U [J 1,aA 3]))])]))]) aF,aB (au .Eq (J 2) (wS s4)) (ag [aC (aq 4) (aQ bJ (U [bP false (.one 1) true [(2,1)] (cy (af (J 0) (wI 2))) bo (oh k [136,274] (aA 2) (U [J 1]))])),aG (ai (U [wS s4,af (J 0) (wI 1),J 4,aQ bJ (U [bP false (.one 1) true [(3,1)] (cy (af (J 0) (wI 3))) bo (az k 115 (U [J 1,aA 3]))])]))]) aF,aG (J 0)])⟩
theorem Zy:FK HV JC:=fK aW
noncomputable def JF:aM:=⟨1,[],[true],[],λk=>(ag [bk [139] s5 (J 0) (eh aI)])⟩
theorem Zz:FK HW JF:=fK aW
noncomputable def JH:aM:=⟨2,[],[true,true],[],λk=>(ag [aB (au .IsNot (J 1) wZ) (ag [aG (J 1)]) aF,bq (bT c0 dZ (aw [139] s5 (J 0)) (U [bb false (wS s6) (aQ mX (U [bb false (aQ dC (U [aw [139] s5 (J 0)])) (wI 1)]))])),aG (af (aw [139] s5 (J 0)) (iM (wI 1)))])⟩
theorem ZA:FK HX JH:=fK aW
noncomputable def JJ:aM:=⟨4,[.int 0],[true,true,true,true],[(6,none),(4,none)],λk=>(ag [aC (fe 4) (az k 139 aI),aC (aq 5) (aQ bJ (U [bP false (.one 1) true [(3,4)] (cy (J 0)) bo (az k 115 (U [J 1,vZ [(139,136)] s7 (aA 3)]))])),aB (au .NotIn wZ (az (bc k) 110 (U [J 1]))) (ag [aG (ai (U [J 5,J 1,aQ bJ (U [aw [139] s5 (aA 4)])]))]) aF,aB (au .In (J 2) (ai (U [wS s0,wS s8]))) (ag [aC (fe 6) (af (af (J 5) (wI 0)) (wI 1))]) (ag [aC (fe 6) jH]),aG (ai (U [J 5,az k 115 (U [J 1,mJ 1 146 s9 0 [(1,6)]]),aQ bJ (U [aw [139] s5 (aA 4)])]))])⟩
theorem ZC:FK qT JJ:=yU aW 4 (λgx m=>ado gx m)
noncomputable def JK:aM:=⟨3,[],[true,true,true],[],λk=>(ag [du (aq 3) (az (bc k) 110 (U [J 0])) (ag [aB (au .Is (J 3) wZ) (ag [cz 52 (U [wS s10,J 2])]) aF,aB (c8 (au .NotEq (J 3) (wS gw)) (c8 (au .NotIn (J 3) (J 1)) bo)) (ag [cz 52 (U [bb false (wS s12) (aQ mX (U [J 3])),J 2])]) aF])])⟩
theorem ZD:FK HY JK:=fK aW
noncomputable def JL:aM:=⟨6,[],[true,true,true,true,true,true],[],λk=>(ag [bk [216,719,852] iX (J 0) (J 1),bk [216,626,752] jJ (J 0) (J 2),bk [216,601] pC (J 0) (J 3),bk [216,690,752] gy (J 0) (J 4),bk [216] N7 (J 0) (J 5)])⟩
theorem ZE:FK HZ JL:=fK aW
noncomputable def JM:aM:=⟨2,[],[false,true],[(0,some 0)],λk=>(ag [aC (ff 2 (aV (aq 3) (aV (aq 2) bL))) (ai (U [af (J 1) (wI 0),af (J 1) (wI 1)])),aB (au .Eq (J 2) (wS pD)) (ag [aG (a9 k [(216,194)] pD (aA 0) (U [J 3,af (J 1) (wI 2)]))]) aF,aB (au .Eq (J 2) (wS s0)) (ag [aG (ai (U [wS s0,af (J 1) (wI 2),af (J 1) (wI 3),a9 k [(216,182)] rQ (aA 0) (U [af (J 1) (wI 4)])]))]) aF,aB (au .Eq (J 2) (wS s3)) (ag [aG (ai (U [wS s3,aQ bJ (U [bP false (.one 1) true [(2,0)] (cy (af (J 1) (wI 2))) bo (a9 k [(216,182)] rQ (aA 2) (U [J 1]))])]))]) aF,aB (au .Eq (J 2) (wS s2)) (ag [aG (ai (U [wS s2,a9 k [(216,182)] rQ (aA 0) (U [af (J 1) (wI 2)]),af (J 1) (wI 3)]))]) aF,aB (au .Eq (J 2) (wS N8)) (ag [aG (ai (U [wS N8]))]) aF,aG (a9 k [(216,189)] C8 (aA 0) aI)])⟩
theorem ZF:FK H0 JM:=fK aW
noncomputable def JO:aM:=⟨1,[],[true],[],λk=>(ag [aG (bC (au .Is (aw [216] N7 (J 0)) wZ) (ai (U [wS N9])) jH)])⟩
theorem ZG:FK H2 JO:=fK aW
noncomputable def JQ:aM:=⟨3,[],[true,true,true],[],λk=>(ag [aC (aq 4) (aQ bJ (U [bP false (.one 1) true [] (cy (J 2)) bo (af (J 1) (wI 0))])),aB (au .Eq (aQ dC (U [J 2])) (wI 1)) (ag [aC (aq 5) (a9 k [(216,201)] s23 (J 0) (U [J 1,af (J 2) (wI 0)])),aB (au .IsNot (J 5) wZ) (ag [aG (J 5)]) aF]) aF,du (aq 3) (qF (J 2) (iM (wI 1))) (ag [aB (bI (au .NotEq (af (J 3) (wI 1)) (ai aI)) (bI (au .NotEq (af (J 3) (wI 2)) (ai aI)) dQ)) (ag [cz 76 (U [wS s24,J 1])]) aF]),aG (a9 k [(216,213)] pE (J 0) (U [J 1,J 4,af (J 2) (iM (wI 1))]))])⟩
theorem ZH:FK H3 JQ:=fK aW
noncomputable def JR:aM:=⟨3,[],[true,true,true],[],λk=>(ag [aC (cD 3 (aV (aq 3) (aV (aq 4) (aV (aq 5) bL)))) (J 2),aB (c8 (au .In (J 3) (aw [216,601] pC (J 0))) (c8 (au .NotEq (J 3) (wS ky)) bo)) (ag [aG (a9 k [(216,208)] yJ (J 0) (U [J 1,J 2,ai (U [wS fu,J 3])]))]) aF,aB (c8 (au .Eq (J 3) (wS ky)) (c8 (au .IsNot (aw [216,690,752] gy (J 0)) wZ) bo)) (ag [aG (a9 k [(216,208)] yJ (J 0) (U [J 1,J 2,aw [216,690,752] gy (J 0)]))]) aF,aB (au .In (J 3) (cC (.tup [.str C9,.str Dc,.str Dd,.str De,.str dY,.str Df,.str Dg,.str Dh,.str Di]))) (ag [aG (a9 k [(216,208)] yJ (J 0) (U [J 1,J 2,ai (U [wS il,J 3])]))]) aF,aB (au .Eq (J 3) (wS lV)) (ag [aG (a9 k [(216,208)] yJ (J 0) (U [J 1,J 2,ai (U [wS lV])]))]) aF,aB (au .NotEq (J 3) (wS yK)) (ag [aG wZ]) aF,aB (bI (au .NotEq (J 4) (ai aI)) (bI (au .Gt (aQ dC (U [J 5])) (wI 1)) dQ)) (ag [cz 76 (U [wS s41,J 1])]) aF,aG (ai (U [wS s1,bC (au .NotEq (J 5) (ai aI)) (a9 k [(216,182)] rQ (J 0) (U [af (J 5) (wI 0)])) (a9 k [(216,189)] C8 (J 0) aI)]))])⟩
theorem ZI:FK H4 JR:=fK aW
noncomputable def JU:aM:=⟨4,[],[true,true,true,true],[],λk=>(ag [aB (bI (au .NotEq (af (J 2) (wI 1)) (ai aI)) (bI (au .NotEq (af (J 2) (wI 2)) (ai aI)) dQ)) (ag [cz 76 (U [bb false (af (J 2) (wI 0)) (wS s42),J 1])]) aF,aG (J 3)])⟩
theorem ZJ:FK H5 JU:=fK aW
noncomputable def JW:aM:=⟨4,[],[false,true,true,true],[(0,some 0)],λk=>(ag [aC (aq 4) (a9 (bc k) [(601,548)] Oa (aw [216,719,852] iX (aA 0)) (U [aw [216,626,752] jJ (aA 0),J 2,wS lW,J 1])),aB (au .NotIn (af (aw [601] ip (aw [216,719,852] iX (aA 0))) (J 4)) (ai (U [wS jK,wS lX]))) (ag [cz 76 (U [bb false (J 4) (wS s48),J 1])]) aF,aC (cD 2 (aV (aq 5) (aV (aq 6) bL))) (af (aw [216,601] pC (aw [216,719,852] iX (aA 0))) (J 4)),aB (c8 (au .NotEq (af (J 3) (wI 1)) (ai aI)) (c8 (au .NotEq (aQ dC (U [af (J 3) (wI 1)])) (aQ dC (U [J 5]))) bo)) (ag [cz 76 (U [bb false (J 4) (wS s49),J 1])]) aF,aB (c8 (au .NotEq (af (J 3) (wI 2)) (ai aI)) (c8 (au .NotEq (aQ dC (U [af (J 3) (wI 2)])) (aQ dC (U [J 6]))) bo)) (ag [cz 76 (U [bb false (J 4) (wS s50),J 1])]) aF,aC (aq 7) (bC (au .NotEq (af (J 3) (wI 1)) (ai aI)) (aQ bJ (U [af (J 3) (wI 1)])) (ud (ai (U [wZ])) (aQ dC (U [J 5])))),aB (au .NotEq (af (J 3) (wI 2)) (ai aI)) (ag [aG (ai (U [wS s4,J 4,J 7,aQ bJ (U [bP false (.one 1) true [(2,0)] (cy (af (J 3) (wI 2))) bo (a9 k [(216,182)] rQ (aA 2) (U [J 1]))])]))]) aF,aG (ai (U [wS s4,J 4,J 7,aQ bJ (U [bP false (.one 1) true [(2,0)] (cy (J 6)) bo (a9 k [(216,189)] C8 (aA 2) aI)])]))])⟩
theorem ZK:FK H6 JW:=fK aW
noncomputable def JX:aM:=⟨6,[.none],[true,true,true,true,true,true],[],λk=>(ag [aG (a9 k [(216,182)] rQ (az k 216 (U [J 0,J 1,J 2,J 3,J 5])) (U [J 4]))])⟩
theorem ZL:FK H7 JX:=fK aW
noncomputable def JY:aM:=⟨1,[],[true],[],λk=>(ag [aC (aq 1) (af (J 0) (wI 0)),aB (au .Eq (J 1) (wS s0)) (ag [aG (az (bc k) 233 (U [af (J 0) (wI 3)]))]) aF,aB (au .In (J 1) (ai (U [wS s1,wS s2]))) (ag [aG (az (bc k) 233 (U [af (J 0) (wI 1)]))]) aF,aC (aq 2) (bC (au .Eq (J 1) (wS s3)) (af (J 0) (wI 1)) (bC (au .Eq (J 1) (wS s4)) (af (J 0) (wI 3)) (ai aI))),aG (oN (c6 .NotEq (J 1) (wS N9)) (aQ BE (U [bP false (.one 1) true [] (cy (J 2)) bo (az (bc k) 233 (U [J 1]))])))])⟩
theorem ZM:FK H8 JY:=fK aW
noncomputable def JZ:aM:=⟨4,[],[true,true,true,true],[],λk=>(ag [aC (aq 4) (a9 (bc k) [(601,548)] Oa (J 0) (U [J 1,aQ bJ (U [bP false (.one 1) true [] (cy (J 2)) bo (af (J 1) (wI 0))]),wS lW,J 3])),aB (au .NotEq (af (aw [601] ip (J 0)) (J 4)) (wS gA)) (ag [cz 52 (U [bb false (J 4) (wS s52),J 3])]) aF,aG (J 4)])⟩
theorem ZN:FK H9 JZ:=fK aW
noncomputable def J0:aM:=⟨4,[],[true,true,true,true],[],λk=>(ag [aC (aq 4) (eh aI),du (cD 2 (aV (aq 5) (aV (aq 6) bL))) (af (J 2) (wI 1)) (ag [aB (bI (au .In (J 5) (bP false (.one 1) true [] (cy (J 4)) bo (af (J 1) (wI 0)))) (bI (au .In (J 5) (cC (.tup [.str C9,.str Dc,.str Dd,.str De,.str dY,.str Df,.str Dg,.str Dh,.str Di]))) (bI (au .In (J 5) (ai (U [wS ky,wS lV,wS yK]))) dQ))) (ag [cz 52 (U [bb false (bb false (wS Dj) (J 5)) (wS s54),J 3])]) aF,aC (aq 7) (eh aI),du (aq 8) (J 6) (ag [aB (bI (au .NotEq (af (af (J 8) (iM (wI 1))) (wI 1)) (ai aI)) (bI (au .NotEq (af (af (J 8) (iM (wI 1))) (wI 2)) (ai aI)) dQ)) (ag [cz 52 (U [wS s55,J 3])]) aF,bq (bT c0 dZ (J 7) (U [az (bc k) 238 (U [J 0,J 1,J 8,J 3])]))]),bq (bT c0 dZ (J 4) (U [ai (U [J 5,aQ bJ (U [J 7])])]))]),aG (J 4)])⟩
theorem ZO:FK Ia J0:=fK aW
noncomputable def J1:aM:=⟨1,[],[true],[],λk=>(ag [aC (aq 1) (af (J 0) (wI 0)),aB (au .Eq (J 1) (wS s0)) (ag [aG (ai (U [af (J 0) (wI 3)]))]) aF,aB (bI (au .Eq (J 1) (wS s1)) (bI (au .Eq (J 1) (wS s2)) dQ)) (ag [aG (ai (U [af (J 0) (wI 1)]))]) aF,aB (au .Eq (J 1) (wS s3)) (ag [aG (af (J 0) (wI 1))]) aF,aG (bC (au .Eq (J 1) (wS s4)) (af (J 0) (wI 3)) (ai aI))])⟩
theorem ZP:FK Ib J1:=fK aW
noncomputable def J2:aM:=⟨2,[],[true,true],[],λk=>(ag [aC (aq 2) (af (J 0) (wI 0)),aB (au .Eq (J 2) (wS s0)) (ag [aG (ai (U [wS s0,af (J 0) (wI 1),af (J 0) (wI 2),af (J 1) (wI 0)]))]) aF,aB (au .Eq (J 2) (wS s1)) (ag [aG (ai (U [wS s1,af (J 1) (wI 0)]))]) aF,aB (au .Eq (J 2) (wS s2)) (ag [aG (ai (U [wS s2,af (J 1) (wI 0),af (J 0) (wI 2)]))]) aF,aB (au .Eq (J 2) (wS s3)) (ag [aG (ai (U [wS s3,aQ bJ (U [J 1])]))]) aF,aG (bC (au .Eq (J 2) (wS s4)) (ai (U [wS s4,af (J 0) (wI 1),af (J 0) (wI 2),aQ bJ (U [J 1])])) (J 0))])⟩
theorem ZQ:FK Ic J2:=fK aW
noncomputable def J3:aM:=⟨2,[],[true,false],[(1,some 1)],λk=>(ag [aB (au .Eq (af (J 0) (wI 0)) (wS fu)) (ag [aG (bT n7 oO (aA 1) (U [af (J 0) (wI 1),J 0]))]) aF,aG (az k 257 (U [J 0,bP false (.one 1) true [(3,1)] (cy (az k 250 (U [J 0]))) bo (az (bc k) 262 (U [J 1,aA 3]))]))])⟩
theorem ZR:FK Ie J3:=fK aW
noncomputable def J4:aM:=⟨2,[],[true,false],[(1,some 1)],λk=>(ag [aB (au .Eq (af (J 0) (wI 0)) (wS s0)) (ag [aC (aq 0) (ai (U [wS s0,oh k [136,274] (aA 1) (U [af (J 0) (wI 1)]),af (J 0) (wI 2),af (J 0) (wI 3)]))]) (ag [aB (au .Eq (af (J 0) (wI 0)) (wS s4)) (ag [aC (aq 0) (ai (U [wS s4,af (J 0) (wI 1),aQ bJ (U [bP false (.one 1) true [(2,1)] (cy (af (J 0) (wI 2))) bo (oh k [136,274] (aA 2) (U [J 1]))]),af (J 0) (wI 3)]))]) aF]),aG (az k 257 (U [J 0,bP false (.one 1) true [(3,1)] (cy (az k 250 (U [J 0]))) bo (az (bc k) 267 (U [J 1,aA 3]))]))])⟩
theorem ZT:FK Ig J4:=fK aW
noncomputable def J5:aM:=⟨1,[],[true],[],λk=>(ag [aG wZ])⟩
theorem ZU:FK Ih J5:=fK aW
noncomputable def J6:aM:=⟨1,[],[true],[],λk=>(ag [aG (az (bc k) 267 (U [J 0,cC (.glob 274)]))])⟩
theorem ZV:FK Ii J6:=fK aW
noncomputable def J7:aM:=⟨3,[],[true,true,true],[],λk=>(ag [aG (af (af (aw [626,719] nF (af (aw [719] jL (J 2)) (af (J 0) (wI 1)))) (J 1)) (wI 2))])⟩
theorem ZW:FK Ij J7:=fK aW
noncomputable def J8:aM:=⟨3,[],[true,true,true],[(6,none),(5,none),(4,none)],λk=>(ag [aB (au .Eq (af (J 0) (wI 0)) (wS s3)) (ag [aG jH]) aF,aB (au .NotEq (af (J 0) (wI 0)) (wS s4)) (ag [aG (aY aI)]) aF,aC (aq 3) (af (aw [719] jL (J 2)) (af (J 0) (wI 1))),aC (fe 4) (pZ (aw [626,647,668,690,752] f7 (J 3)) (af (J 0) (wI 3))),aC (fe 6) (pZ (aw [626,647,690,752] eB (J 3)) (af (J 0) (wI 2))),ub 3 302 yL 3 [(1,6)] (fe 5),aG (bP false (.two 1 2) true [(5,5),(6,4)] (cy (az k 300 (U [J 0,J 1,J 2]))) bo (ai (U [J 1,az (bc k) 262 (U [az (bc k) 267 (U [J 2,aA 5]),aA 6])])))])⟩
theorem ZX:FK qU J8:=yU aW 5 (λgx _=>ads gx)
noncomputable def J9:aM:=⟨2,[],[true,true],[],λk=>(ag [aC (aq 2) (af (aw [719] jL (J 1)) (J 0)),aG (ai (U [wS s4,J 0,aQ bJ (U [aw [626,647,690,752] eB (J 2)]),aQ bJ (U [bP false (.one 1) true [] (cy (aw [626,647,668,690,752] f7 (J 2))) bo (ai (U [wS fu,J 1]))])]))])⟩
theorem ZY:FK Ik J9:=fK aW
noncomputable def Ka:aM:=⟨2,[],[true,true],[],λk=>(ag [aC (aq 2) (eh aI),qJ (aq 3) (aQ dC (U [aw [626,719] nF (af (aw [719] jL (J 1)) (af (J 0) (wI 1)))])) (ag [bq (bT c0 nR (J 2) (U [bP false (.two 1 2) true [] (cy (az (bc k) 305 (U [J 0,J 3,J 1]))) bo (J 2)]))]),aG (J 2)])⟩
theorem ZZ:FK Il Ka:=fK aW
noncomputable def Kb:aM:=⟨2,[],[true,true],[],λk=>(ag [bk [346,852] g6 (J 0) (J 1),bk [346] fw (J 0) (eh aI),bk [346] f9 (J 0) (eh aI)])⟩
theorem Z0:FK Im Kb:=fK aW
noncomputable def Kc:aM:=⟨2,[],[true,true],[],λk=>(ag [aC (aq 2) (af (J 1) (wI 0)),aB (au .Eq (J 2) (wS s2)) (ag [bq (a9 k [(346,336),(601,576)] pF (J 0) (U [af (J 1) (wI 1)]))]) (ag [aB (au .Eq (J 2) (wS s3)) (ag [du (aq 3) (af (J 1) (wI 1)) (ag [bq (a9 k [(346,336),(601,576)] pF (J 0) (U [J 3]))])]) (ag [aB (au .Eq (J 2) (wS s4)) (ag [bq (a9 k [(346,343)] s65 (J 0) (U [az (bc k) 281 (U [J 1])]))]) aF])])])⟩
theorem Z1:FK Io Kc:=fK aW
noncomputable def Kd:aM:=⟨2,[],[true,true],[],λk=>(ag [aB (xO (J 1) (aw [346] f9 (J 0))) (ag [wk]) aF,aB (bI (au .In (J 1) (aw [346] fw (J 0))) (bI (au .Gt (aQ dC (U [aw [346] fw (J 0)])) (wI 40)) dQ)) (ag [cz 76 (U [bb false (wS s66) jH])]) aF,bq (bT c0 dZ (aw [346] fw (J 0)) (U [J 1])),du (aq 2) (az (bc k) 315 (U [J 1,aw [346,852] g6 (J 0)])) (ag [bq (a9 k [(346,336),(601,576)] pF (J 0) (U [J 2]))]),bq (bT c0 tS (aw [346] fw (J 0)) aI),bq (bT c0 dZ (aw [346] f9 (J 0)) (U [J 1]))])⟩
theorem Z2:FK Ip Kd:=fK aW
noncomputable def Ke:aM:=⟨1,[],[true],[],λk=>(ag [aG (bb false (aQ bJ (U [aw [647] fx (J 0)])) (ai (U [aw [647] dx (J 0)])))])⟩
theorem Z3:FK Iq Ke:=fK aW
noncomputable def Kf:aM:=⟨2,[],[true,true],[],λk=>(ag [bk [386] Ob (J 0) (J 1),bk [386] uX (J 0) et])⟩
theorem Z4:FK Ir Kf:=fK aW
noncomputable def Kg:aM:=⟨3,[],[true,true,true],[],λk=>(ag [aB (fc (cH (sS (J 1)))) (ag [aG (c6 .Eq (J 1) (J 2))]) aF,aB (xI (J 1) (aw [386] uX (J 0))) (ag [aG (c6 .Eq (af (aw [386] uX (J 0)) (J 1)) (J 2))]) aF,aB (bI (au .NotIn (J 2) (aw [386] Ob (J 0))) (bI (sA (J 2) (aw [386] uX (J 0))) dQ)) (ag [aG (bp false)]) aF,wU (J 2) (aw [386] uX (J 0)) (J 1),aG (bp true)])⟩
theorem Z5:FK It Kg:=fK adh
noncomputable def Kh:aM:=⟨4,[],[true,false,false,true],[(2,some 2),(1,some 1)],λk=>(ag [aB (bI (au .NotEq (aw [647] yM (aA 1)) (aw [647] yM (J 3))) (bI (au .NotEq (aQ dC (U [aw [647] fx (aA 1)])) (aQ dC (U [aw [647] fx (J 3)]))) dQ)) (ag [aG (bp false)]) aF,aB (au .NotEq (bP false (.two 1 2) true [] (cy (aw [647] kz (aA 1))) bo (J 2)) (bP false (.two 1 2) true [] (cy (aw [647] kz (J 3))) bo (J 2))) (ag [aG (bp false)]) aF,aC (aq 6) (hV [ky] (U [aw [216,690,752] gy (aA 2)])),oa (cD 2 (aV (aq 7) (aV (aq 4) bL))) (aw [626,647,668,690,752] f7 (J 0)) (ag [bX (af (aw [690] Oc (aA 2)) (J 7)) (J 6) (J 4)]),oa (cD 2 (aV (aq 7) (aV (cD 2 (aV (aq 4) (aV (aq 5) bL))) bL))) (aw [647] kz (aA 1)) (ag [bX (ai (U [wS fu,af (af (aw [647] kz (J 3)) (J 7)) (wI 0)])) (J 6) (J 4)]),aC (aq 9) (az k 386 (U [bP false (.one 1) false [(2,2)] (cy (aw [626,647,690,752] eB (J 3))) (au .NotIn (J 1) (aw [626,647,690,752] eB (aA 2))) (J 1)])),qN (cD 2 (aV (aq 10) (aV (aq 11) bL))) (az (bc k) 362 (U [aA 1])) (az (bc k) 362 (U [J 3])) (ag [aC (aq 12) (az k 115 (U [J 10,mJ 2 392 yN 2 [(1,1)]])),aC (aq 13) (az (bc k) 262 (U [J 12,J 6])),aB (au .NotEq (az (bc k) 281 (U [J 13])) (az (bc k) 281 (U [J 11]))) (ag [aG (bp false)]) aF,qN (cD 2 (aV (aq 8) (aV (aq 14) bL))) (az (bc k) 110 (U [J 13])) (az (bc k) 110 (U [J 11])) (ag [aB (fc (cH (a9 k [(386,383)] s75 (J 9) (U [J 8,J 14])))) (ag [aG (bp false)]) aF])]),aG (bp true)])⟩
theorem Z6:FK qV Kh:=yU aW 6 (λgx m=>adq gx m)
noncomputable def Ki:aM:=⟨2,[],[true,true],[],λk=>(ag [aC (aq 2) (af (aw [719] rR (J 1)) (aw [690] gA (J 0))),du (aq 3) (aw [668,690] g7 (J 0)) (ag [aB (au .NotIn (J 3) (aw [668,690] g7 (J 2))) (ag [cz 88 (U [bb false (bb false (aw [690] gA (J 0)) (wS s78)) (J 3),aw [449,690] yO (J 0)])]) aF,aB (fc (cH (az (bc k) 395 (U [J 2,af (aw [668,690] g7 (J 2)) (J 3),J 0,af (aw [719] uY (J 1)) (af (aw [668,690] g7 (J 0)) (J 3))])))) (ag [cz 88 (U [bb false (bb false (bb false (bb false (wS yP) (J 3)) (wS s82)) (aw [690] gA (J 0))) (wS s83),aw [449,690] yO (J 0)])]) aF]),du (aq 3) (aw [668,690] g7 (J 2)) (ag [aB (c8 (au .NotIn (J 3) (aw [668,690] g7 (J 0))) (c8 (au .NotIn (J 3) (aw [668] Dk (J 2))) bo)) (ag [cz 88 (U [bb false (bb false (bb false (bb false (wS yP) (J 3)) (wS s85)) (aw [690] gA (J 0))) (wS s86),aw [449,690] yO (J 0)])]) aF])])⟩
theorem Z7:FK Iu Ki:=fK aW
noncomputable def Kj:aM:=⟨1,[],[true],[],λk=>(ag [aC (aq 1) (az k 346 (U [J 0])),du (aq 2) (aQ nS (U [aw [719] jL (J 0)])) (ag [bq (a9 k [(346,336),(601,576)] pF (J 1) (U [az (bc k) 310 (U [J 2,J 0])]))]),du (aq 3) (aw [719] uZ (J 0)) (ag [aB (au .IsNot (aw [690] gA (J 3)) wZ) (ag [bq (az (bc k) 402 (U [J 3,J 0]))]) aF,aB (au .Eq (aw [690] gA (J 3)) (wS yQ)) (ag [bq jH]) aF])])⟩
theorem Z8:FK Iv Kj:=fK aW
noncomputable def Kk:aM:=⟨2,[],[true,true],[],λk=>(ag [aG (bC (au .Eq (J 0) (wS dj)) (J 1) (bb false (bb false (J 0) (wS vd)) (J 1)))])⟩
theorem Z9:FK Iw Kk:=fK aW
noncomputable def Kl:aM:=⟨2,[],[true,true],[],λk=>(ag [aG (lN (c6 .Eq (J 1) (wS dj)) (lN (c6 .Eq (J 0) (J 1)) (bT tl Ac (J 0) (U [bb false (J 1) (wS vd)]))))])⟩
theorem aaa:FK Iy Kl:=fK aW
noncomputable def Km:aM:=⟨1,[],[true],[],λk=>(ag [bk [482] rS (J 0) et,bk [482] yR (J 0) et,bk [482] pG (J 0) et])⟩
theorem aab:FK Iz Km:=fK aW
noncomputable def Ko:aM:=⟨2,[],[true,true],[],λk=>(ag [aG (bC (au .Eq (J 1) (wS lW)) (aw [482] rS (J 0)) (aw [482] yR (J 0)))])⟩
theorem aac:FK IA Ko:=fK aW
noncomputable def Kq:aM:=⟨3,[],[false,false,true],[(1,some 1),(0,some 0)],λk=>(ag [aG (lN (c6 .In (aA 1) (aw [482] pG (aA 0))) (c6 .NotEq (bP false (.one 1) false [(2,1),(3,0)] (cy (J 2)) (au .In (aA 2) (a9 k [(482,474)] Dl (aA 3) (U [J 1]))) (J 1)) (aY aI)))])⟩
theorem aad:FK IB Kq:=fK aW
noncomputable def Kr:aM:=⟨2,[],[true,true],[],λk=>(ag [bk [601] ip (J 0) (hV [dj] (U [wS kA])),bk [601,626] nG (J 0) (hV [dj] (U [bp true])),bk [601] nH (J 0) (hV [dj] (U [az k 482 aI])),bk [216,601] pC (J 0) et,bk [601,852] rT (J 0) et,aC (aq 2) (eh (U [ai (U [wS dj,aQ gd (U [J 1])])])),n8 (au .NotEq (J 2) (aY aI)) (ag [aC (cD 2 (aV (aq 3) (aV (aq 4) bL))) (bT c0 tS (J 2) aI),du (aq 5) (J 4) (ag [aB (au .Eq (af (J 5) (wI 0)) (wS kA)) (ag [bq (bT c0 dZ (J 2) (U [ai (U [az k 418 (U [J 3,af (J 5) (wI 2)]),aQ gd (U [af (J 5) (wI 3)])])]))]) aF,bq (a9 k [(601,507)] s99 (J 0) (U [J 3,J 5]))])])])⟩
theorem aae:FK IC Kr:=fK (uv ["left"])
noncomputable def Ks:aM:=⟨3,[],[true,true,true],[],λk=>(ag [aC (ff 2 (aV (aq 4) (aV (aq 3) bL))) (ai (U [af (J 2) (wI 0),af (J 2) (wI 1)])),aB (au .Eq (J 3) (wS Ms)) (ag [bq jH]) (ag [aB (au .Eq (J 3) (wS kA)) (ag [bq (a9 k [(601,514)] BY (J 0) (U [J 1,af (J 2) (wI 2),J 3,ai (U [wS lW]),af (J 2) (wI 4),J 4])),bX (az k 482 aI) (aw [601] nH (J 0)) (az k 418 (U [J 1,af (J 2) (wI 2)]))]) (ag [aB (au .Eq (J 3) (wS jK)) (ag [aC (aq 5) (bC (au .Eq (af (J 2) (wI 4)) (wS pE)) (ai (U [wS lW])) (ai (U [wS lW,wS ki]))),bq (a9 k [(601,519)] BZ (J 0) (U [J 1,J 2,J 5,af (J 2) (wI 6)]))]) (ag [aB (au .Eq (J 3) (wS lX)) (ag [bq (a9 k [(601,519)] BZ (J 0) (U [J 1,J 2,ai (U [wS lW]),af (J 2) (wI 5)])),bq (a9 k [(601,526)] acH (J 0) (U [az k 418 (U [J 1,af (J 2) (wI 2)]),J 2]))]) (ag [aB (au .Eq (J 3) (wS gA)) (ag [bq (a9 k [(601,519)] BZ (J 0) (U [J 1,J 2,ai (U [wS lW]),af (J 2) (wI 5)]))]) (ag [aB (au .In (J 3) (ai (U [wS gR,wS uh]))) (ag [bq (a9 k [(601,514)] BY (J 0) (U [J 1,af (J 2) (wI 2),J 3,ai (U [wS ki]),bC (au .Eq (J 3) (wS gR)) (af (J 2) (wI 8)) (af (J 2) (wI 5)),J 4])),bX (J 2) (aw [601,852] rT (J 0)) (az k 418 (U [J 1,af (J 2) (wI 2)]))]) aF])])])])])])⟩
theorem aaf:FK ID Ks:=fK aW
noncomputable def Kt:aM:=⟨7,[],[true,true,true,true,true,true,true],[],λk=>(ag [aC (ff 2 (aV (aq 8) (aV (aq 7) bL))) (ai (U [af (aw [601] nH (J 0)) (J 1),az k 418 (U [J 1,J 2])])),aB (bI (cH (a9 k [(482,479)] acI (J 7) (U [J 2,J 4]))) (bI (au .In (J 8) (aw [601] ip (J 0))) dQ)) (ag [cz 52 (U [bb false (bb false (wS acJ) (J 2)) (wS o4),J 6])]) aF,du (aq 9) (J 4) (ag [bX (J 8) (a9 k [(482,474)] Dl (J 7) (U [J 9])) (J 2)]),bX (J 3) (aw [601] ip (J 0)) (J 8),bX (J 5) (aw [601,626] nG (J 0)) (J 8)])⟩
theorem aag:FK IE Kt:=fK aW
noncomputable def Ku:aM:=⟨5,[],[true,true,true,true,true],[],λk=>(ag [bq (a9 k [(601,514)] BY (J 0) (U [J 1,af (J 2) (wI 2),af (J 2) (wI 0),J 3,J 4,af (J 2) (wI 1)])),aC (aq 5) (az k 418 (U [J 1,af (J 2) (wI 2)])),aC (cD 2 (aV (aq 6) (aV (aq 7) bL))) (af (J 2) (wI 3)),bX (ai (U [aQ bJ (U [J 6]),aQ bJ (U [bP false (.one 1) true [] (cy (J 7)) bo (af (J 1) (wI 0))])])) (aw [216,601] pC (J 0)) (J 5),bX (J 2) (aw [601,852] rT (J 0)) (J 5)])⟩
theorem aah:FK IF Ku:=fK aW
noncomputable def Kw:aM:=⟨3,[],[true,true,true],[],λk=>(ag [du (aq 3) (af (J 2) (wI 4)) (ag [aB (au .In (az k 418 (U [J 1,af (J 3) (wI 0)])) (aw [601] ip (J 0))) (ag [cz 52 (U [bb false (bb false (wS acK) (af (J 3) (wI 0))) (wS o4),af (J 2) (wI 1)])]) aF,bX (wS xQ) (aw [601] ip (J 0)) (az k 418 (U [J 1,af (J 3) (wI 0)]))])])⟩
theorem aai:FK IG Kw:=fK aW
noncomputable def Kx:aM:=⟨4,[],[true,true,true,true],[],λk=>(ag [aG (lN (J 3) (az k 432 (U [J 1,J 2])))])⟩
theorem aaj:FK IH Kx:=fK aW
noncomputable def Ky:aM:=⟨5,[.int 0],[true,true,true,true,true],[],λk=>(ag [aG (a9 k [(601,555)] acL (J 0) (U [J 1,aQ bJ (U [J 2]),J 3,J 4,aY aI]))])⟩
theorem aak:FK II Ky:=fK aW
noncomputable def Kz:aM:=⟨6,[],[true,true,true,true,true,true],[],λk=>(ag [aC (cD 2 (aV (aq 6) (aV (aq 7) bL))) (a9 k [(601,562)] acM (J 0) (U [J 1,J 2,J 4])),n8 (au .Lt (J 7) (aQ dC (U [J 2]))) (ag [aC (aq 8) (bC (au .Eq (bb false (J 7) (wI 1)) (aQ dC (U [J 2]))) (J 3) (wS lW)),aC (aq 9) (a9 k [(601,569)] acN (J 0) (U [J 1,J 6,af (J 2) (J 7),J 8,J 4,J 5])),aB (au .Is (J 9) wZ) (ag [cz 52 (U [bb false (wS Mt) (bT tl wy (wS vd) (U [J 2])),J 4])]) aF,aC (ff 2 (aV (aq 7) (aV (aq 6) bL))) (ai (U [J 9,bb true (J 7) (wI 1)]))]),aB (bI (au .Is (J 6) wZ) (bI (c8 (au .Eq (J 3) (wS ki)) (c8 (au .Eq (af (aw [601] ip (J 0)) (J 6)) (wS kA)) bo)) dQ)) (ag [cz 52 (U [bb false (wS Mt) (bT tl wy (wS vd) (U [J 2])),J 4])]) aF,aG (J 6)])⟩
theorem aal:FK IJ Kz:=fK aW
noncomputable def KA:aM:=⟨4,[],[true,true,true,true],[],λk=>(ag [aB (au .Eq (J 2) (ai aI)) (ag [cz 52 (U [wS acO,J 3])]) aF,aB (au .Eq (af (J 2) (wI 0)) (wS o5)) (ag [aG (ai (U [wS dj,wI 1]))]) aF,aB (au .NotIn (af (J 2) (wI 0)) (cC (.tup [.str o5,.str eS,.str B0]))) (ag [aG (ai (U [wZ,wI 0]))]) aF,aC (ff 2 (aV (aq 5) (aV (aq 4) bL))) (ai (U [J 1,bC (au .Eq (af (J 2) (wI 0)) (wS eS)) (wI 1) (wI 0)])),n8 (c8 (au .Lt (J 5) (aQ dC (U [J 2]))) (c8 (au .Eq (af (J 2) (J 5)) (wS B0)) bo)) (ag [aB (au .Eq (J 4) (wS dj)) (ag [cz 52 (U [wS acP,J 3])]) aF,aC (ff 2 (aV (aq 5) (aV (aq 4) bL))) (ai (U [jH,bb true (J 5) (wI 1)]))]),aG (ai (U [J 4,J 5]))])⟩
theorem aam:FK IK KA:=fK aW
noncomputable def KC:aM:=⟨7,[],[true,true,true,true,true,true,true],[],λk=>(ag [aB (au .IsNot (J 2) wZ) (ag [aG (a9 k [(346,336),(601,576)] pF (J 0) (U [J 1,J 2,J 3,J 4,J 5,J 6]))]) aF,aC (aq 7) (a9 k [(346,336),(601,576)] pF (J 0) (U [J 1,J 1,J 3,J 4,J 5,J 6])),aB (c8 (au .Is (J 7) wZ) (c8 (au .In (J 3) (cC (.tup [.str Mu,.str Mv,.str Mw,.str yQ,.str Mx,.str My,.str Mz,.str MA,.str MC,.str MD,.str ME,.str MF,.str MG]))) bo)) (ag [aC (aq 7) (a9 k [(346,336),(601,576)] pF (J 0) (U [J 1,wS dj,J 3,J 4,J 5,J 6]))]) aF,aG (J 7)])⟩
theorem aan:FK IL KC:=fK aW
noncomputable def KD:aM:=⟨7,[],[true,true,true,true,true,true,true],[],λk=>(ag [aB (au .Eq (af (aw [601] ip (J 0)) (J 2)) (wS lX)) (ag [aC (aq 7) (az k 418 (U [J 2,J 3])),aG (bC (au .Eq (bT n7 oO (aw [601] ip (J 0)) (U [J 7])) (wS xQ)) (J 7) wZ)]) aF,aB (au .NotEq (af (aw [601] ip (J 0)) (J 2)) (wS kA)) (ag [aG wZ]) aF,aC (aq 8) (af (aw [601] nH (J 0)) (J 2)),aC (aq 7) (bT n7 oO (a9 k [(482,474)] Dl (J 8) (U [J 4])) (U [J 3])),aB (au .IsNot (J 7) wZ) (ag [aB (fc (cH (a9 k [(601,540)] B1 (J 0) (U [J 1,J 2,af (aw [601,626] nG (J 0)) (J 7)])))) (ag [cz 64 (U [bb false (J 7) (wS MH),J 5])]) aF,aG (J 7)]) aF,aC (aq 9) (bT n7 oO (aw [482] pG (J 8)) (U [J 3])),aB (au .Is (J 9) wZ) (ag [aG wZ]) aF,aB (fc (cH (a9 k [(601,540)] B1 (J 0) (U [J 1,J 2,aw [449] acQ (J 9)])))) (ag [cz 64 (U [bb false (bb false (wS acR) (J 3)) (wS MH),J 5])]) aF,aG jH])⟩
theorem aao:FK IM KD:=fK aW
noncomputable def KE:aM:=⟨1,[],[true],[],λk=>(ag [du (aq 1) (aQ nS (U [aw [601] nH (J 0)])) (ag [aC (aq 2) (af (aw [601] nH (J 0)) (J 1)),du (aq 3) (aQ nS (U [aw [482] pG (J 2)])) (ag [aC (aq 4) (af (aw [482] pG (J 2)) (J 3)),g0])])])⟩
theorem aap:FK IP KE:=fK aW
noncomputable def KG:aM:=⟨8,[.str dj,.tup []],[true,true,true,true,true,true,true,true],[],λk=>(ag [bk [626,647,668] pD (J 0) (J 1),bk [216,626,752] jJ (J 0) (J 6),bk [626,647,690,752] eB (J 0) (J 2),bk [626,647,668,690,752] f7 (J 0) (J 3),bk [626,719] nF (J 0) (J 4),bk [601,626] nG (J 0) (J 7),bk [626] B2 (J 0) (J 5)])⟩
theorem aaq:FK IQ KG:=fK aW
noncomputable def KH:aM:=⟨9,[],[true,true,true,true,true,true,true,true,true],[],λk=>(ag [bk [626,647,668] pD (J 0) (J 1),bk [626,647,690,752] eB (J 0) (J 2),bk [626,647,668,690,752] f7 (J 0) (J 3),bk [647] kz (J 0) (J 4),bk [647] fx (J 0) (J 5),bk [647] dx (J 0) (J 6),bk [647] yM (J 0) (J 7),bk [647] B3 (J 0) (J 8)])⟩
theorem aar:FK IS KH:=fK aW
noncomputable def KI:aM:=⟨5,[],[true,true,true,true,true],[],λk=>(ag [bk [626,647,668] pD (J 0) (J 1),bk [626,647,668,690,752] f7 (J 0) (J 2),bk [668,690] g7 (J 0) (J 3),bk [668] Dk (J 0) (J 4)])⟩
theorem aas:FK IT KI:=fK aW
noncomputable def KJ:aM:=⟨9,[.int 0],[true,true,true,true,true,true,true,true,true],[],λk=>(ag [bk [690] MI (J 0) (J 1),bk [626,647,690,752] eB (J 0) (J 2),bk [626,647,668,690,752] f7 (J 0) (J 3),bk [690] gA (J 0) (J 4),bk [690] Oc (J 0) (J 5),bk [216,690,752] gy (J 0) (J 6),bk [668,690] g7 (J 0) (J 7),bk [449,690] yO (J 0) (J 8)])⟩
theorem aat:FK IU KJ:=fK aW
noncomputable def KL:aM:=⟨2,[.none],[true,true],[],λk=>(ag [bk [216,719,852] iX (J 0) (J 1),bk [719] jL (J 0) et,bk [626,719] nF (J 0) et,bk [719] uY (J 0) et,bk [719] rR (J 0) et,bk [719] uZ (J 0) (eh aI),bk [719] B4 (J 0) et,bk [719] rq (J 0) et])⟩
theorem aau:FK IV KL:=fK aW
noncomputable def KN:aM:=⟨5,[],[true,true,true,true,true],[],λk=>(ag [aC (aq 5) (af (aw [719] jL (J 0)) (J 1)),aG (a9 k [(601,540)] B1 (aw [216,719,852] iX (J 0)) (U [J 4,aw [216,626,752] jJ (J 5),af (af (aw [601,626] nG (J 5)) (J 2)) (J 3)]))])⟩
theorem aav:FK IW KN:=fK aW
noncomputable def KO:aM:=⟨5,[],[true,true,true,true,true],[],λk=>(ag [bk [216,626,752] jJ (J 0) (J 1),bk [626,647,690,752] eB (J 0) (aQ bJ (U [J 2])),bk [626,647,668,690,752] f7 (J 0) (aQ sQ (U [J 3])),bk [216,690,752] gy (J 0) (J 4)])⟩
theorem aaw:FK IX KO:=fK aW
noncomputable def KP:aM:=⟨1,[],[true],[],λk=>(ag [aG (bP false (.one 1) true [] (cy (aw [626,647,668,690,752] f7 (J 0))) bo (af (J 1) (wI 0)))])⟩
theorem aax:FK IY KP:=fK aW
noncomputable def KQ:aM:=⟨4,[],[true,true,true,true],[],λk=>(ag [du (aq 4) (J 2) (ag [aB (bI (au .In (J 4) (aw [626,647,690,752] eB (J 0))) (bI (au .Gt (bT AU Av (J 2) (U [J 4])) (wI 1)) (bI (au .Eq (J 4) (wS gw)) dQ))) (ag [cz 52 (U [bb false (bb false (wS acS) (J 4)) (wS o4),J 1])]) aF]),du (cD 2 (aV (aq 4) (aV (aq 5) bL))) (J 3) (ag [aB (au .In (J 4) (a9 (bc k) [(752,742)] MJ (J 0) aI)) (ag [cz 52 (U [bb false (bb false (wS Dj) (J 4)) (wS o4),J 1])]) aF]),aG (az k 752 (U [aw [216,626,752] jJ (J 0),bb false (aw [626,647,690,752] eB (J 0)) (aQ bJ (U [J 2])),bb false (aw [626,647,668,690,752] f7 (J 0)) (aQ gd (U [J 3])),aw [216,690,752] gy (J 0)]))])⟩
theorem aay:FK IZ KQ:=fK aW
noncomputable def KR:aM:=⟨2,[],[true,true],[],λk=>(ag [bk [601,852] rT (J 0) (J 1),bk [216,719,852] iX (J 0) (az k 601 (U [J 1])),bk [346,852] g6 (J 0) (az k 719 (U [aw [216,719,852] iX (J 0)])),bk [852] B5 (J 0) (eh aI)])⟩
theorem aaz:FK I0 KR:=fK aW
noncomputable def KS:aM:=⟨1,[],[true],[(3,none),(1,none)],λk=>(ag [la true (.one 1) true [] (rk (aw [601,852] rT (J 0))) bo (ai (U [wS dj,J 1])) (aq 2),n8 (au .NotEq (J 2) (aY aI)) (ag [aC (cD 2 (aV (fe 3) (aV (fe 1) bL))) (bT c0 tS (J 2) aI),aB (au .Eq (af (aA 1) (wI 0)) (wS kA)) (ag [bq (bT c0 nR (J 2) (U [bP false (.one 1) true [(3,1),(4,3)] (rk (af (aA 1) (wI 3))) bo (ai (U [az k 418 (U [aA 4,af (aA 3) (wI 2)]),J 1]))]))]) (ag [aB (au .In (af (aA 1) (wI 0)) (ai (U [wS jK,wS lX]))) (ag [bq (a9 k [(852,794)] acT (J 0) (U [aA 3,aA 1]))]) (ag [aB (au .Eq (af (aA 1) (wI 0)) (wS gA)) (ag [bq (a9 k [(852,823)] acU (J 0) (U [aA 3,aA 1]))]) (ag [aB (au .NotEq (af (aA 1) (wI 0)) (wS Ms)) (ag [bq (bT c0 dZ (aw [852] B5 (J 0)) (U [ai (U [aA 3,aA 1])]))]) aF])])])]),du (cD 2 (aV (fe 3) (aV (fe 1) bL))) (aw [852] B5 (J 0)) (ag [aB (au .Eq (af (aA 1) (wI 0)) (wS gR)) (ag [bq (a9 k [(852,804)] B6 (J 0) (U [az k 418 (U [aA 3,af (aA 1) (wI 2)]),aA 1,az k 752 (U [aA 3,ai aI,aY aI,wZ]),bp true]))]) (ag [aB (au .Eq (af (aA 1) (wI 0)) (wS uh)) (ag [bq (a9 k [(852,818)] acV (J 0) (U [aA 3,aA 1]))]) (ag [bq (a9 k [(852,830)] acW (J 0) (U [aA 3,aA 1]))])])]),bq (a9 k [(601,598)] acX (aw [216,719,852] iX (J 0)) aI),aG (aw [346,852] g6 (J 0))])⟩
theorem aaA:FK I1 KS:=fK (uv ["left"])
noncomputable def KU:aM:=⟨3,[],[true,true,true],[],λk=>(ag [aC (aq 3) (az (bc k) 228 (U [aw [216,719,852] iX (J 0),aw [216,626,752] jJ (J 1),a9 (bc k) [(752,742)] MJ (J 1) aI,aw [216,690,752] gy (J 1),J 2])),aB (fc (cH (az (bc k) 233 (U [J 3])))) (ag [cz 76 (U [wS acY,af (J 2) (wI 1)])]) aF,aG (J 3)])⟩
theorem aaB:FK I2 KU:=fK aW
noncomputable def KV:aM:=⟨4,[],[true,true,true,true],[],λk=>(ag [aC (aq 4) (az (bc k) 243 (U [aw [216,719,852] iX (J 0),aw [216,626,752] jJ (J 1),J 2,J 3])),aG (ai (U [a9 k [(752,749)] acZ (J 1) (U [J 3,af (J 2) (wI 0),J 4]),J 4]))])⟩
theorem aaC:FK I3 KV:=fK aW
noncomputable def KW:aM:=⟨3,[],[true,true,false],[(2,some 2)],λk=>(ag [aC (ff 2 (aV (aq 4) (aV (aq 3) bL))) (ai (U [af (aA 2) (wI 1),az k 418 (U [J 1,af (aA 2) (wI 2)])])),aC (cD 2 (aV (aq 5) (aV (aq 6) bL))) (a9 k [(852,789)] xR (J 0) (U [az k 752 (U [J 1,ai aI,aY aI,wZ]),af (aA 2) (wI 3),J 3])),bk [216,690,752] gy (J 5) (ai (U [wS s4,J 4,aQ bJ (U [af (af (aA 2) (wI 3)) (wI 0)]),aQ bJ (U [bP false (.one 1) true [] (cy (J 6)) bo (ai (U [wS fu,af (J 1) (wI 0)]))])])),aC (aq 7) (bC (au .Eq (af (aA 2) (wI 0)) (wS jK)) (aY (U [ai (U [wS dj,af (aA 2) (wI 4),af (aA 2) (wI 5)])])) (aQ gd (U [af (aA 2) (wI 4)]))),aC (ff 2 (aV (aq 9) (aV (aq 8) bL))) (ai (U [eh aI,eh aI])),oa (cD 2 (aV (aq 10) (aV (cD 3 (aV (aq 11) (aV (aq 12) (aV (aq 13) bL)))) bL))) (J 7) (ag [bq (bT c0 dZ (J 8) (U [ai (U [bC (au .NotEq (J 11) (wS dj)) (J 11) (af (aA 2) (wI 2)),J 12,a9 k [(852,799)] dI (J 0) (U [J 5,J 13,J 3])])])),bq (bT c0 dZ (J 9) (U [bP false (.one 1) true [(2,2)] (cy (J 13)) bo (lN (c6 .Eq (af (aA 2) (wI 0)) (wS lX)) (af (J 1) (wI 2)))])),bX (ai (U [J 4,J 10])) (aw [626,719] nF (aw [346,852] g6 (J 0))) (bC (au .Eq (af (aA 2) (wI 0)) (wS jK)) (J 4) (az k 418 (U [J 4,J 11])))]),aC (aq 14) (aQ bJ (U [bP false (.one 1) true [] (cy (J 6)) bo (af (J 1) (wI 0))])),bX (az k 626 (U [J 4,aQ bJ (U [af (af (aA 2) (wI 3)) (wI 0)]),J 14,J 8,c6 .Eq (af (aA 2) (wI 0)) (wS lX),J 1,J 9])) (aw [719] jL (aw [346,852] g6 (J 0))) (J 4)])⟩
theorem aaD:FK I4 KW:=fK aW
noncomputable def KY:aM:=⟨4,[],[true,true,true,true],[],λk=>(ag [aC (aq 4) (eh aI),du (cD 3 (aV (aq 5) (aV (aq 6) (aV (aq 7) bL)))) (J 2) (ag [aB (au .In (J 5) (bP false (.one 1) true [] (cy (J 4)) bo (af (J 1) (wI 0)))) (ag [cz 52 (U [bb false (bb false (wS ac0) (J 5)) (wS o4),J 3])]) aF,aC (aq 8) (a9 (bc k) [(852,782)] ru (J 0) (U [J 1,J 6])),bq (az (bc k) 163 (U [J 8,aw [626,647,690,752] eB (J 1),af (J 6) (wI 1)])),bq (bT c0 dZ (J 4) (U [ai (U [J 5,J 8])]))]),aG (J 4)])⟩
theorem aaE:FK I5 KY:=fK aW
noncomputable def KZ:aM:=⟨5,[],[false,true,true,true,true],[(7,none),(0,some 0)],λk=>(ag [aC (ff 2 (aV (aq 6) (aV (aq 5) bL))) (ai (U [af (J 2) (wI 1),af (J 2) (wI 4)])),aB (c8 (au .IsNot (J 6) wZ) (c8 (au .Is (aw [216,690,752] gy (J 3)) wZ) bo)) (ag [cz 52 (U [wS ac1,J 5])]) aF,aC (cD 2 (aV (fe 7) (aV (aq 8) bL))) (a9 k [(852,789)] xR (aA 0) (U [J 3,af (J 2) (wI 3),J 5])),aC (aq 9) (bC (au .Is (J 6) wZ) (aY aI) (aY (U [a9 k [(852,811)] ac2 (aA 0) (U [aw [216,690,752] gy (J 3),J 6])]))),aC (aq 9) (bb false (J 9) (bP false (.two 1 2) true [(3,7),(4,0)] (cy (af (J 2) (wI 5))) bo (a9 (bc k) [(852,782)] ru (aA 4) (U [aA 3,J 2])))),aC (aq 10) (bC (au .Is (af (J 2) (wI 6)) wZ) (cC (.tup [.str s3,.tup []])) (a9 (bc k) [(852,782)] ru (aA 0) (U [aA 7,af (J 2) (wI 6)]))),aC (cD 3 (aV (aq 9) (aV (aq 10) (aV (aq 11) bL)))) (az (bc k) 149 (U [J 9,J 10,J 6,J 5])),wM 12 (bb false (J 9) (ai (U [J 10]))) (az (bc k) 163 (U [J 12,bb false (aw [626,647,690,752] eB (aA 7)) (J 11),J 5])),aC (aq 13) (az k 647 (U [J 1,bb false (aw [626,647,690,752] eB (aA 7)) (J 11),aw [626,647,668,690,752] f7 (aA 7),J 8,J 9,J 10,J 6,c6 .IsNot (af (J 2) (wI 7)) wZ])),aB (cH (J 4)) (ag [bX (J 13) (aw [719] uY (aw [346,852] g6 (aA 0))) (J 1),aB (au .IsNot (af (J 2) (wI 7)) wZ) (ag [bX (ai (U [J 2,aw [216,626,752] jJ (J 3),aw [216,690,752] gy (J 3)])) (aw [719] rq (aw [346,852] g6 (aA 0))) (J 1)]) aF]) aF,aG (J 13)])⟩
theorem aaF:FK I6 KZ:=fK aW
noncomputable def K0:aM:=⟨3,[],[true,true,true],[],λk=>(ag [aG (bC (au .Eq (J 2) (wS ki)) (J 1) (ai (U [wS s0,wZ,c6 .Eq (J 2) (wS s8),J 1])))])⟩
theorem aaG:FK I7 K0:=fK aW
noncomputable def K1:aM:=⟨3,[],[true,true,true],[],λk=>(ag [aC (aq 3) (a9 (bc k) [(852,782)] ru (J 0) (U [az k 752 (U [J 1,ai aI,aY aI,wZ]),af (J 2) (wI 3)])),aC (aq 3) (az k 115 (U [J 3,mJ 0 813 xS 1 []])),bq (az (bc k) 163 (U [J 3,ai aI,af (J 2) (wI 1)])),bX (ai (U [J 3,af (J 2) (wI 4),J 1])) (aw [719] B4 (aw [346,852] g6 (J 0))) (az k 418 (U [J 1,af (J 2) (wI 2)]))])⟩
theorem aaH:FK qW K1:=yU aW 1 (λgx m=>adp gx m)
noncomputable def K2:aM:=⟨3,[],[true,true,true],[],λk=>(ag [aC (ff 2 (aV (aq 4) (aV (aq 3) bL))) (ai (U [az k 418 (U [J 1,af (J 2) (wI 2)]),af (J 2) (wI 1)])),aB (au .NotEq (af (af (J 2) (wI 3)) (wI 0)) (ai aI)) (ag [cz 88 (U [wS ac3,J 4])]) aF,aC (aq 5) (az k 752 (U [J 1,ai aI,aY (U [ai (U [wS ky,ai (U [J 3])])]),ai (U [wS fu,wS ky])])),aC (cD 2 (aV (aq 6) (aV (aq 7) bL))) (a9 k [(852,789)] xR (J 0) (U [J 5,af (J 2) (wI 3),J 4])),aC (ff 2 (aV (aq 9) (aV (aq 8) bL))) (ai (U [et,et])),du (aq 10) (af (J 2) (wI 4)) (ag [aC (aq 11) (af (J 10) (wI 2)),aB (au .In (J 11) (J 8)) (ag [cz 52 (U [bb false (bb false (wS yP) (J 11)) (wS o4),af (J 10) (wI 1)])]) aF,bX (a9 k [(852,804)] B6 (J 0) (U [az k 418 (U [J 3,J 11]),J 10,J 6,bp true])) (J 8) (J 11),aB (au .IsNot (af (J 10) (wI 7)) wZ) (ag [bX (az k 418 (U [J 3,J 11])) (J 9) (J 11)]) aF]),bX (az k 668 (U [J 3,aQ bJ (U [bP false (.one 1) true [] (cy (J 7)) bo (af (J 1) (wI 0))]),J 8,J 9])) (aw [719] rR (aw [346,852] g6 (J 0))) (J 3)])⟩
theorem aaI:FK I8 K2:=fK aW
noncomputable def K3:aM:=⟨3,[],[true,true,true],[],λk=>(ag [aC (ff 2 (aV (aq 4) (aV (aq 3) bL))) (ai (U [af (J 2) (wI 1),aQ dC (U [aw [719] uZ (aw [346,852] g6 (J 0))])])),aC (cD 2 (aV (aq 5) (aV (aq 6) bL))) (a9 k [(852,789)] xR (J 0) (U [az k 752 (U [J 1,ai aI,aY aI,wZ]),af (J 2) (wI 2),J 3])),aC (aq 7) (a9 (bc k) [(852,782)] ru (J 0) (U [J 5,af (J 2) (wI 4)])),bk [216,690,752] gy (J 5) (a9 k [(852,844)] ac4 (J 0) (U [J 7,J 5,J 3])),aC (cD 2 (aV (aq 8) (aV (aq 9) bL))) (a9 (bc k) [(852,849)] ac5 (J 0) (U [J 5,J 2])),bq (a9 (bc k) [(852,837)] ac6 (J 0) (U [J 6,bb false (ai (U [J 7])) (J 9),J 3])),aC (aq 10) et,du (aq 11) (af (J 2) (wI 5)) (ag [aC (aq 12) (af (J 11) (wI 2)),aB (au .In (J 12) (J 10)) (ag [cz 52 (U [bb false (bb false (wS yP) (J 12)) (wS o4),af (J 11) (wI 1)])]) aF,bX (bb false (bb false (bb false (wS ac7) (aQ mX (U [J 4]))) (wS vd)) (J 12)) (J 10) (J 12),bq (a9 k [(852,804)] B6 (J 0) (U [af (J 10) (J 12),J 11,J 5,bp true]))]),bq (bT c0 dZ (aw [719] uZ (aw [346,852] g6 (J 0))) (U [az k 690 (U [J 4,aw [626,647,690,752] eB (J 5),J 6,J 8,J 9,aw [216,690,752] gy (J 5),J 10,J 3])]))])⟩
theorem aaJ:FK I9 K3:=fK aW
noncomputable def K4:aM:=⟨4,[],[true,true,true,true],[],λk=>(ag [aC (aq 4) (eh aI),du (aq 5) (J 2) (ag [bq (bT c0 nR (J 4) (U [az (bc k) 863 (U [J 5])]))]),du (cD 2 (aV (aq 6) (aV (aq 7) bL))) (J 1) (ag [aB (au .NotIn (J 6) (J 4)) (ag [cz 100 (U [bb false (bb false (wS Dj) (J 6)) (wS ac8),J 3])]) aF])])⟩
theorem aaK:FK Ja K4:=fK aW
noncomputable def K5:aM:=⟨4,[],[true,true,true,true],[],λk=>(ag [bq (az (bc k) 163 (U [J 1,aw [626,647,690,752] eB (J 2),J 3])),aG (J 1)])⟩
theorem aaL:FK Jb K5:=fK aW
noncomputable def K6:aM:=⟨3,[],[false,false,true],[(1,some 1),(0,some 0)],λk=>(ag [aC (aq 3) (af (J 2) (wI 3)),aB (au .Is (J 3) wZ) (ag [aG (ai (U [wZ,ai aI]))]) aF,aC (aq 4) (az (bc k) 238 (U [aw [216,719,852] iX (aA 0),aw [216,626,752] jJ (aA 1),J 3,af (J 2) (wI 1)])),aC (aq 5) (aQ bJ (U [bP false (.one 1) true [(2,1),(3,0)] (cy (af (af (J 3) (iM (wI 1))) (wI 2))) bo (a9 (bc k) [(852,782)] ru (aA 3) (U [aA 2,J 1]))])),aB (au .NotEq (aQ dC (U [J 5])) (aQ dC (U [aw [626,647,668,690,752] f7 (af (aw [719] rR (aw [346,852] g6 (aA 0))) (J 4))]))) (ag [cz 88 (U [bb false (J 4) (wS ac9),af (J 2) (wI 1)])]) aF,du (aq 6) (J 5) (ag [bq (az (bc k) 163 (U [J 6,aw [626,647,690,752] eB (aA 1),af (J 2) (wI 1)]))]),aG (ai (U [J 4,J 5]))])⟩
theorem aaM:FK Jc K6:=fK aW
noncomputable def K7:aM:=⟨1,[],[true],[],λk=>(ag [aC (aq 1) (af (J 0) (wI 0)),aB (au .Eq (J 1) (wS fu)) (ag [aG (aY (U [af (J 0) (wI 1)]))]) aF,aB (au .Eq (J 1) (wS s0)) (ag [aG (az (bc k) 863 (U [af (J 0) (wI 3)]))]) aF,aB (au .In (J 1) (ai (U [wS s1,wS s2]))) (ag [aG (az (bc k) 863 (U [af (J 0) (wI 1)]))]) aF,aC (aq 2) (eh aI),du (aq 3) (bC (au .Eq (J 1) (wS s3)) (af (J 0) (wI 1)) (bC (au .Eq (J 1) (wS s4)) (af (J 0) (wI 3)) (ai aI))) (ag [bq (bT c0 nR (J 2) (U [az (bc k) 863 (U [J 3])]))]),aG (J 2)])⟩
theorem aaN:FK Jd K7:=fK aW
noncomputable def K8:aM:=⟨1,[],[true],[],λk=>(ag [aC (aq 1) (a9 k [(852,775)] ada (az k 852 (U [aQ bJ (U [J 0])])) aI),bq (az (bc k) 409 (U [J 1])),aG (J 1)])⟩
theorem aaO:FK Je K8:=fK aW
noncomputable def K9:aM:=⟨2,[],[true,true],[],λk=>(ag [aG (af (J 1) (az k 884 (U [J 0,aQ dC (U [J 1])])))])⟩
theorem aaP:FK Jf K9:=fK aW
noncomputable def La:aM:=⟨3,[.tup [],.tup []],[true,true,true],[],λk=>(ag [aG (ai (U [wS pD,wI 0,bb false (aQ bJ (U [bP false (.one 1) true [] (cy (qF (J 0) (iM (wI 1)))) bo (ai (U [J 1,ai aI,ai aI]))])) (ai (U [ai (U [af (J 0) (iM (wI 1)),J 1,J 2])]))]))])⟩
theorem aaQ:FK Jg La:=fK aW
noncomputable def Lb:aM:=⟨3,[],[true,true,true],[],λk=>(ag [aC (aq 3) (bC (au .Gt (J 1) (wI 0)) (az k 884 (U [J 0,wI 7])) (az k 884 (U [J 0,wI 3]))),aB (au .Eq (J 3) (wI 0)) (ag [aG (aY (U [az k 904 (U [aY (U [wS dY])]),ai (U [wS il,wS dY])]))]) aF,aB (au .Eq (J 3) (wI 1)) (ag [aG (bC (au .Is (af (J 2) (wI 1)) wZ) (aY (U [az k 904 (U [aY (U [wS lV])]),ai (U [wS lV])])) (aY (U [az k 904 (U [aY (U [af (J 2) (wI 1)])]),ai (U [wS fu,af (J 2) (wI 1)])])))]) aF,aB (au .Eq (J 3) (wI 2)) (ag [aG (aY (U [az k 904 (U [aY (U [wS o5,wS fJ,wS o6])]),ai (U [wS s4,wS lC,ai aI,ai aI])]))]) aF,aC (aq 4) (az k 911 (U [J 0,w6 (J 1) (wI 1),J 2])),aB (au .Eq (J 3) (wI 3)) (ag [aC (aq 5) (az k 891 (U [J 0,bb false (aQ gd (U [af (J 2) (wI 0)])) (aY (U [wS gw]))])),aG (aY (U [ai (U [wS s0,wI 0,J 5,bp true,af (J 4) (wI 0)]),ai (U [wS s0,J 5,bp true,af (J 4) (wI 1)])]))]) aF,aB (au .Eq (J 3) (wI 4)) (ag [aG (aY (U [ai (U [wS s3,wI 0,ai (U [af (J 4) (wI 0),af (J 4) (wI 0)])]),ai (U [wS s3,ai (U [af (J 4) (wI 1),af (J 4) (wI 1)])])]))]) aF,aB (au .Eq (J 3) (wI 5)) (ag [aG (aY (U [ai (U [wS s2,wI 0,af (J 4) (wI 0),wI 3]),ai (U [wS s2,af (J 4) (wI 1),wI 3])]))]) aF,aG (aY (U [az k 904 (U [aY (U [wS yK]),ai aI,ai (U [af (J 4) (wI 0)])]),ai (U [wS s1,af (J 4) (wI 1)])]))])⟩
theorem aaR:FK Jh Lb:=fK aW
noncomputable def Lc:aM:=⟨1,[],[false],[(2,none),(0,some 0)],λk=>(ag [aC (aq 1) (hV [gS,cO] (U [az k 891 (U [aA 0,aY (U [ai aI,ai (U [wS lD])])]),az k 891 (U [aA 0,aY (U [wZ,wS cO])])])),aC (fe 2) (aY (U [af (J 1) (wS gS),af (J 1) (wS cO)])),bX (bP false (.one 1) true [(3,0),(4,2)] (iP (az k 884 (U [aA 0,wI 3]))) bo (az k 911 (U [aA 3,wI 2,aA 4]))) (J 1) (wS dI),bX (bP false (.one 1) true [(3,0)] (iP (wI 2)) bo (c6 .Eq (az k 884 (U [aA 3,wI 2])) (wI 0))) (J 1) (wS fg),bX (bP false (.one 1) true [(3,0),(4,2)] (iP (az k 884 (U [aA 0,wI 3]))) bo (az k 911 (U [aA 3,wI 2,aA 4]))) (J 1) (wS fx),bX (c6 .Eq (az k 884 (U [aA 0,wI 2])) (wI 0)) (J 1) (wS o7),bX (az k 911 (U [aA 0,wI 1,aA 2])) (J 1) (wS dx),bX (az k 911 (U [aA 0,wI 1,aY (U [ai aI,wZ])])) (J 1) (wS dX),aB (au .Eq (az k 884 (U [aA 0,wI 3])) (wI 0)) (ag [bX (aY (U [ai (U [wS s0,wI 0,wZ,bp true,az k 904 (U [aY (U [wS dY])])]),ai (U [wS s0,wS gw,bp true,ai (U [wS il,wS dY])])])) (J 1) (wS dX)]) aF,bX (az k 891 (U [aA 0,aY (U [wS ki,wS s0,wS s8,wS s0])])) (J 1) (wS eS),bX (c6 .Eq (az k 884 (U [aA 0,wI 2])) (wI 0)) (J 1) (wS hZ),aG (J 1)])⟩
theorem aaS:FK Ji Lc:=fK aW
noncomputable def Ld:aM:=⟨1,[],[true],[],λk=>(ag [aC (aq 1) (bC (au .Is (af (J 0) (wS cO)) wZ) (ai aI) (ai (U [ai (U [af (J 0) (wS cO),ai aI])]))),aG (ai (U [af (J 0) (wS gS),J 1]))])⟩
theorem aaT:FK Jj Ld:=fK aW
noncomputable def Le:aM:=⟨4,[],[true,true,true,true],[],λk=>(ag [la true (.one 1) true [] (cy (af (J 1) (wS fx))) bo (ai (U [ai (U [wS B7,wI 0]),af (J 1) (wI 0)])) (aq 4),aB (cH (af (J 1) (wS o7))) (ag [bq (bT c0 dZ (J 4) (U [ai (U [ai (U [wS B7,wI 0]),ai (U [wS s0,wI 0,wZ,bp false,az k 904 (U [aY (U [wS dY])])])])]))]) aF,aC (aq 5) (bC (au .IsNot (J 2) wZ) (cC (.tup [.tup [],.tup []])) (az (bc k) 923 (U [J 1]))),aG (ai (U [wS gR,wI 0,J 0,J 5,J 2,aQ bJ (U [J 4]),af (af (J 1) (wS dx)) (wI 0),bC (cH (J 3)) wZ (cC (.tup [.str o8,.int 0,.tup [],.none])),bp true]))])⟩
theorem aaU:FK Jk Le:=fK (uv ["params"])
noncomputable def Lf:aM:=⟨2,[],[false,true],[(0,some 0)],λk=>(ag [aC (aq 2) (bC (c8 (au .Eq (af (aA 0) (wS gS)) (ai aI)) (c8 (au .Is (af (aA 0) (wS cO)) wZ) bo)) (az k 904 (U [aY (U [wS fh]),ai aI,ai aI])) (az k 904 (U [aY (U [wS fh]),af (aA 0) (wS gS),aQ bJ (U [bC (au .IsNot (af (aA 0) (wS cO)) wZ) (aY (U [az k 904 (U [aY (U [af (aA 0) (wS cO)])])])) (aY aI)])]))),la false (.one 1) true [(3,0)] (iP (aQ dC (U [af (aA 0) (wS dI)]))) bo (ai (U [bb false (wS MK) (aQ mX (U [J 1])),af (af (af (aA 3) (wS dI)) (J 1)) (wI 0),af (af (aA 3) (wS fg)) (J 1)])) (aq 3),aB (au .Eq (J 1) (wS xT)) (ag [aC (aq 3) (aY (U [ai (U [wS iQ,az k 904 (U [aY (U [wS dY])]),bp true]),ai (U [wS iQ,az k 904 (U [aY (U [wS dY])]),bp true])]))]) aF,aB (au .Eq (J 1) (wS xU)) (ag [aC (aq 3) (aY (U [ai (U [wS iQ,az k 904 (U [aY (U [wS ML])]),bp true])]))]) aF,aB (au .Eq (J 1) (wS xV)) (ag [aC (aq 3) (aY (U [ai (U [wS iQ,az k 904 (U [aY (U [wS o5,wS fJ,wS o6]),ai aI,ai (U [az k 904 (U [aY (U [wS dY])])])]),bp true])]))]) aF,aB (au .Eq (J 1) (wS xW)) (ag [aC (aq 3) (aY (U [ai (U [wS iQ,ai (U [wS s0,wI 0,wS MM,bp false,az k 904 (U [aY (U [wS dY])])]),bp true])]))]) aF,aC (aq 4) (ai (U [wS gA,wI 0,wS jv,cC (.tup [.tup [],.tup []]),ai (U [ai (U [wS gR,wI 0,wS m6,cC (.tup [.tup [],.tup []]),af (aA 0) (wS eS),ai aI,wZ,bC (cH (af (aA 0) (wS hZ))) (cC (.tup [.str o8,.int 0,.tup [],.none])) wZ,bp false])]),bp true])),aC (aq 5) (bC (cH (af (aA 0) (wS hZ))) (aY aI) (aY (U [ai (U [wS gR,wI 0,wS m6,cC (.tup [.tup [],.tup []]),af (aA 0) (wS eS),ai aI,wZ,cC (.tup [.str o8,.int 0,.tup [],.none]),bp false])]))),aB (au .Eq (J 1) (wS xX)) (ag [aC (aq 5) (bb false (J 5) (aY (U [ai (U [wS gR,wI 0,wS MN,cC (.tup [.tup [],.tup []]),wZ,ai aI,wZ,cC (.tup [.str o8,.int 0,.tup [],.none]),bp false])])))]) aF,aC (aq 6) (bC (bI (au .Is (af (aA 0) (wS cO)) wZ) (bI (au .Eq (af (aA 0) (wS gS)) (ai aI)) dQ)) (aY (U [az (bc k) 928 (U [wS kz,aA 0,af (aA 0) (wS eS),bp false])])) (aY aI)),aC (aq 7) (az (bc k) 923 (U [aA 0])),aB (au .Eq (J 1) (wS xY)) (ag [aC (aq 7) (ai (U [af (J 7) (wI 0),bb false (af (J 7) (wI 1)) (ai (U [ai (U [wS MO,ai aI])]))]))]) aF,aC (aq 8) (eh (U [ai (U [wS jK,wI 0,wS fh,az (bc k) 923 (U [aA 0]),wS pE,aQ bJ (U [J 3]),bp true]),J 4])),bq (bT c0 dZ (J 8) (U [ai (U [wS xZ,wI 0,az (bc k) 923 (U [aA 0]),wZ,J 2,aQ bJ (U [J 6])])])),bq (bT c0 dZ (J 8) (U [ai (U [wS xZ,wI 0,J 7,ai (U [ai (U [wS jv,ai aI,ai aI])]),J 2,aQ bJ (U [J 5])])])),bq (bT c0 dZ (J 8) (U [ai (U [wS uh,wI 0,wS ui,af (af (aA 0) (wS dX)) (wI 0),ai (U [wS il,wI 0,wI 1,wZ]),bp true])])),aC (aq 9) (eh (U [ai (U [wS jK,wI 0,wS B8,cC (.tup [.tup [],.tup []]),wS pE,ai (U [ai (U [wS MP,az k 904 (U [aY (U [wS dY])]),bp false])]),bp true])])),aC (aq 10) (ai (U [wS B9,wS s3,ai (U [ai (U [wS Ca,az k 904 (U [aY (U [wS dY])]),bp true])])])),bq (bT c0 dZ (J 9) (U [ai (U [wS lX,wI 0,wS o6,cC (.tup [.tup [],.tup []]),ai (U [ai (U [wS Cb,wS Cc,ai aI]),J 10]),bp true])])),bq (bT c0 dZ (J 9) (U [az (bc k) 928 (U [wS rv,aA 0,bC (au .Eq (J 1) (wS x9)) (wS ki) wZ,bp false])])),aB (au .Eq (J 1) (wS Cd)) (ag [bq (bT c0 dZ (J 9) (U [ai (U [wS gR,wI 0,wS rv,cC (.tup [.tup [],.tup []]),wZ,ai aI,wZ,cC (.tup [.str o8,.int 0,.tup [],.none]),bp true])]))]) aF,aG (bb false (J 8) (aY (U [ai (U [wS kA,wI 0,wS fJ,aQ bJ (U [J 9]),bp true])])))])⟩
theorem aaV:FK Jl Lf:=fK (uv ["items","inner"])
noncomputable def Lg:aM:=⟨4,[],[true,true,true,true],[],λk=>(ag [aC (aq 4) (bC (c8 (au .IsNot (af (J 1) (wS cO)) wZ) (c8 (au .Is (J 2) wZ) bo)) (aY (U [ai (U [af (J 1) (wS cO),ai aI])])) (aY aI)),la true (.one 1) true [] (cy (af (J 1) (wS fx))) bo (af (J 1) (wI 1)) (aq 5),aC (ff 2 (aV (aq 7) (aV (aq 6) bL))) (ai (U [aQ sQ (U [af (J 1) (wS gS)]),eh aI])),aB (au .IsNot (J 2) wZ) (ag [aC (aq 8) (ai (U [wS s4,wS fh,af (J 1) (wS gS),bC (au .IsNot (af (J 1) (wS cO)) wZ) (ai (U [ai (U [wS fu,wS cO])])) (ai aI)])),aB (au .NotEq (J 2) (wS ki)) (ag [bq (bT c0 dZ (J 7) (U [wS h9])),aC (aq 8) (ai (U [wS s0,wS h9,c6 .Eq (J 2) (wS s8),J 8]))]) aF,aC (aq 5) (bb true (aY (U [J 8])) (J 5))]) aF,aB (cH (af (J 1) (wS o7))) (ag [bq (bT c0 dZ (J 7) (U [bb false (wS s6) (aQ mX (U [bb false (aQ dC (U [J 7])) (wI 1)]))])),bq (bT c0 dZ (J 5) (U [ai (U [wS s0,af (J 7) (iM (wI 1)),bp false,ai (U [wS il,wS dY])])]))]) aF,aB (au .NotEq (ai (U [aQ gd (U [aw [626,647,668,690,752] f7 (J 0)]),aQ gd (U [aw [647] kz (J 0)]),aw [647] yM (J 0),aw [647] B3 (J 0)])) (ai (U [bb false (J 3) (J 4),J 4,J 2,bp true]))) (ag [aG (bp false)]) aF,aG (oN (c6 .Eq (aQ bJ (U [aw [647] fx (J 0)])) (aQ bJ (U [J 5]))) (oN (c6 .Eq (aw [647] dx (J 0)) (af (af (J 1) (wS dx)) (wI 1))) (c6 .Eq (aQ gd (U [aw [626,647,690,752] eB (J 0)])) (bb false (J 6) (J 7)))))])⟩
theorem aaW:FK Jm Lg:=fK (uv ["inputs"])
noncomputable def Lh:aM:=⟨2,[],[true,false],[(1,some 1)],λk=>(ag [aC (ff 2 (aV (aq 3) (aV (aq 2) bL))) (ai (U [af (aw [719] jL (J 0)) (wS fh),af (aw [719] jL (J 0)) (wS lC)])),la false (.one 1) true [(3,1)] (iP (aQ dC (U [af (aA 1) (wS dI)]))) bo (ai (U [bb false (wS MK) (aQ mX (U [J 1])),af (af (af (aA 3) (wS dI)) (J 1)) (wI 1)])) (aq 5),aB (au .NotEq (ai (U [aw [216,626,752] jJ (J 2),aQ bJ (U [aw [626,647,690,752] eB (J 2)]),aQ bJ (U [aw [626,647,668,690,752] f7 (J 2)])])) (ai (U [wS dj,af (aA 1) (wS gS),bC (au .Is (af (aA 1) (wS cO)) wZ) (ai aI) (ai (U [wS cO]))]))) (ag [aG (bp false)]) aF,aB (au .NotEq (bP false (.one 1) true [] (cy (aw [601,626] nG (J 2))) bo (aQ gd (U [J 1]))) (aY (U [qF (af (aA 1) (wS fg)) (aQ dC (U [J 5]))]))) (ag [aG (bp false)]) aF,aB (bI (au .NotEq (aQ gd (U [aw [626,719] nF (J 2)])) (aY (U [ai (U [wS fh,wS pE,J 5])]))) (bI (cH (aw [626] B2 (J 2))) (bI (fc (cH (aw [626] B2 (J 3)))) (bI (au .NotEq (aQ dC (U [aw [719] jL (J 0)])) (wI 3)) dQ)))) (ag [aG (bp false)]) aF,aB (au .NotEq (aQ gd (U [aw [626,719] nF (J 3)])) (aY (U [ai (U [wS Cb,wS Cc,aY aI]),ai (U [wS B9,wS s3,aY (U [ai (U [wS Ca,ai (U [wS il,wS dY])])])])]))) (ag [aG (bp false)]) aF,qJ (aq 4) (aQ dC (U [J 5])) (ag [aB (bI (fc (cH (a9 (bc k) [(719,716)] ya (J 0) (U [wS fh,wI 0,J 4,wS fJ])))) (bI (au .IsNot (a9 (bc k) [(719,716)] ya (J 0) (U [wS fh,wI 0,J 4,wS dj])) (bp true)) dQ)) (ag [aG (bp false)]) aF]),aB (bI (cH (a9 (bc k) [(719,716)] ya (J 0) (U [wS o9,wI 0,wI 0,wS dj]))) (bI (fc (cH (a9 (bc k) [(719,716)] ya (J 0) (U [wS o9,wI 0,wI 0,wS fJ])))) dQ)) (ag [aG (bp false)]) aF,aG (c6 .Eq (aw [626,719] nF (J 0)) (hV [fh,MQ,MR,o9] (U [ai (U [wS fh,wI 0]),ai (U [wS lC,wI 0]),ai (U [wS lC,wI 1]),ai (U [wS o9,wI 0])])))])⟩
theorem aaX:FK Jn Lh:=fK aW
noncomputable def Li:aM:=⟨2,[],[true,true],[],λk=>(ag [aC (aq 2) (bC (au .Is (af (J 1) (wS cO)) wZ) (aY aI) (aY (U [ai (U [wS cO,ai aI])]))),aC (ff 2 (aV (aq 4) (aV (aq 3) bL))) (ai (U [aw [719] uZ (J 0),lN (c6 .Is (af (J 1) (wS cO)) wZ) (c6 .Eq (af (J 1) (wS gS)) (ai aI))])),aC (aq 5) (ai (U [wS s4,wS fh,af (J 1) (wS gS),bC (au .IsNot (af (J 1) (wS cO)) wZ) (ai (U [ai (U [wS fu,wS cO])])) (ai aI)])),aB (fc (cH (az (bc k) 938 (U [af (aw [719] uY (J 0)) (wS uj),J 1,wZ,aY aI])))) (ag [aG (bp false)]) aF,aB (c8 (cH (J 4)) (c8 (fc (cH (az (bc k) 938 (U [af (aw [719] uY (J 0)) (wS yb),J 1,af (J 1) (wS eS),J 2])))) bo)) (ag [aG (bp false)]) aF,la false (.one 1) true [] (cy (J 3)) bo (ai (U [aw [690] MI (J 1),aQ bJ (U [aw [626,647,690,752] eB (J 1)]),aQ gd (U [aw [626,647,668,690,752] f7 (J 1)]),aw [690] gA (J 1),aw [216,690,752] gy (J 1)])) (aq 6),aB (au .NotEq (J 6) (aY (U [ai (U [wI 0,af (J 1) (wS gS),J 2,wZ,J 5]),ai (U [wI 1,af (J 1) (wS gS),J 2,wS jv,J 5])]))) (ag [aG (bp false)]) aF,aC (aq 7) (bC (cH (af (J 1) (wS hZ))) et (hV [m6] (U [wS MS]))),aB (bI (au .NotEq (aw [668,690] g7 (af (J 3) (wI 0))) (bC (cH (J 4)) (hV [kz] (U [wS yb])) et)) (bI (au .NotEq (aw [668,690] g7 (af (J 3) (wI 1))) (J 7)) dQ)) (ag [aG (bp false)]) aF,aC (aq 8) (af (aw [719] rR (J 0)) (wS jv)),aB (bI (au .NotEq (aw [668] Dk (J 8)) (bC (cH (af (J 1) (wS hZ))) (hV [m6] (U [wS MT])) et)) (bI (au .NotEq (aQ AB (U [aw [668,690] g7 (J 8)])) (aY (U [wS m6]))) dQ)) (ag [aG (bp false)]) aF,aB (bI (au .NotEq (aQ gd (U [aw [626,647,668,690,752] f7 (af (aw [668,690] g7 (J 8)) (wS m6))])) (aY (U [ai (U [wS ky,ai (U [wS jv])])]))) (bI (au .IsNot (aw [647] B3 (af (aw [668,690] g7 (J 8)) (wS m6))) (af (J 1) (wS hZ))) dQ)) (ag [aG (bp false)]) aF,aC (aq 9) (bb false (aY (U [bC (cH (af (J 1) (wS hZ))) (wS MT) (wS MS),wS uj])) (ud (aY (U [wS yb])) (aQ wt (U [J 4])))),aB (bI (au .NotEq (aQ nS (U [aw [719] rq (J 0)])) (aQ nS (U [J 9]))) (bI (au .NotEq (qG (af (aw [719] rq (J 0)) (wS uj)) (wI 1)) (ai (U [wS fJ,wZ]))) dQ)) (ag [aG (bp false)]) aF,aB (au .NotEq (qG (af (aw [719] rq (J 0)) (af (J 9) (wI 0))) (wI 1)) (ai (U [wS dj,bC (cH (af (J 1) (wS hZ))) (ai (U [wS fu,wS ky])) (J 5)]))) (ag [aG (bp false)]) aF,aB (c8 (cH (J 4)) (c8 (au .NotEq (qG (af (aw [719] rq (J 0)) (wS yb)) (wI 1)) (ai (U [wS dj,J 5]))) bo)) (ag [aG (bp false)]) aF,aG (c6 .Eq (aw [719] B4 (J 0)) (hV [ui] (U [ai (U [af (af (J 1) (wS dX)) (wI 1),ai (U [wS il,wI 0,wI 1,wZ]),wS dj])])))])⟩
theorem aaY:FK Jo Li:=fK aW
noncomputable def Dy:lA:=.e 0 λk=>(bC (au .Is (J 0) wZ) (aA 1) (J 0))
noncomputable def Dz:lA:=.e 0 λk=>(bC (au .Is (J 0) wZ) (wS gw) (J 0))
noncomputable def DA:lA:=.e 0 λk=>(bC (au .In (J 0) (aw [626,647,690,752] eB (aA 1))) (ai (U [wS kz,J 0])) (J 0))
noncomputable def DB:lA:=.s 0 λk=>(ag [aG (bT n7 oO (aA 1) (U [J 0,J 0]))])
noncomputable def cQ(i:Nat):Option lA:=lk i [(0,Dy),(1,Dz),(2,DA),(3,DB)]
theorem DC (gx:GX W){b:Call->Ev}(h:aD false o (λp=>rn ⟨"region",.expr p.1,p.2⟩ 0)=true) (a:∀ (W:Wd) (gx:GX W) call d,aD jH o (λp=>((cm gx aW fuel ⟨p.2.names,call,d,none,false⟩).e false p.1).1)=b call):∃ D,pa o=some D/\gN W D (.e 0 b):=by
 refine Y (aR h nofun) ?_;clear h;intro p c h;subst c;exact (ay _ rfl (acC h λcall d=>a W gx call d▸((cm gx aW fuel ⟨p.2.names,call,d,none,false⟩).e false p.1).2))
theorem k_s (gx:GX W){b:Call->Sc}(h:aD false o (λp=>rn ⟨"region",.stmts p.1,p.2⟩ 0)=true) (a:∀ (W:Wd) (gx:GX W) call d,aD g0 o (λp=>(cB (cm gx aW fuel ⟨p.2.names,call,d,none,false⟩) p.1).1)=b call):∃ D,Cg o=some D/\gN W D (.s 0 b):=by
 refine Y (aR h nofun) ?_;clear h;intro p c h;subst c;exact (ay _ rfl (acD h λcall d=>a W gx call d▸(cB (cm gx aW fuel ⟨p.2.names,call,d,none,false⟩) p.1).2))
theorem k_0 (gx:GX W):∃ D,kY 0=some D/\gN W D Dy:=DC gx (o:=yc qT.body) (by kernel_rfl) (by intros;kernel_rfl)
theorem k_1 (gx:GX W):∃ D,kY 1=some D/\gN W D Dz:=DC gx (o:=yd qW.body) (by kernel_rfl) (by intros;kernel_rfl)
theorem k_2 (gx:GX W):∃ D,kY 2=some D/\gN W D DA:=DC gx (o:=ye qV.body) (by kernel_rfl) (by intros;kernel_rfl)
theorem k_3 (gx:GX W):∃ D,kY 3=some D/\gN W D DB:=k_s gx (o:=yf qU.body) (by kernel_rfl) (by intros;kernel_rfl)
theorem all_cons{α:Type}{P:α->Prop}{a:α}{l:List α}(h:P a) (h':∀ x∈l,P x):∀ x∈a::l,P x:=λx b=>(aeA.mp b).elim (λe=>e▸h) (h' x)
theorem all_nil{α:Type}{P:α->Prop}:∀ x∈([]:List α),P x:=λa h=>nomatch h
theorem TN (gx:GX W):∀ e∈[(0,Dy),(1,Dz),(2,DA),(3,DB)],∃ d,W.kt.bY e.1=some d/\gN W d e.2:=by
 rw[gx.bY];exact all_cons (k_0 gx) (all_cons (k_1 gx) (all_cons (k_2 gx) (all_cons (k_3 gx) all_nil)))
theorem TP (gx:GX W):og W cQ:=λi E h=>TN gx (i,E) (iA h)
inductive BT where
 |lf(a:Nat)(e:aM)|nd(m:Nat)(l r:BT)
noncomputable def BT.get (a:Nat) (t:BT):Option aM:=BT.rec (motive:=λc=>Option aM) (λb e=>aex (motive:=λc=>Option aM) none (some e) (aew a b)) (λm c c d f=>aex (motive:=λc=>Option aM) d f (aeZ m a)) t
noncomputable def BT.list:BT->List (Nat×aM)
 |.lf a e=>[(a,e)]
 |.nd b l r=>l.list++r.list
theorem BT.mem:∀ {t:BT},t.get a=some e->(a,e)∈t.list
 |.lf b c,h=>by
  have h':aex (motive:=λd=>Option aM) none (some c) (aew a b)=some e:=h
  induction q:aew a b using aen with
  |false=>rw[q]at h';exact aT h'
  |true=>rw[q]at h';have f:=aej h';clear h';subst c;rw[aem q];exact aev.mpr rfl
 |.nd m l r,h=>by
  have h':aex (motive:=λd=>Option aM) (l.get a) (r.get a) (aeZ m a)=some e:=h
  induction q:aeZ m a using aen with
  |false=>rw[q]at h';exact aeo _ (BT.mem h')
  |true=>rw[q]at h';exact aeu _ (BT.mem h')
noncomputable def M2:BT:=(.nd 519 (.nd 281 (.nd 208 (.nd 163 (.nd 129 (.nd 115 (.lf 110 JA) (.lf 115 JC)) (.nd 136 (.lf 129 JF) (.nd 149 (.lf 136 JH) (.lf 149 JJ)))) (.nd 189 (.nd 177 (.lf 163 JK) (.nd 182 (.lf 177 JL) (.lf 182 JM))) (.nd 194 (.lf 189 JO) (.nd 201 (.lf 194 JQ) (.lf 201 JR))))) (.nd 243 (.nd 228 (.nd 213 (.lf 208 JU) (.lf 213 JW)) (.nd 233 (.lf 228 JX) (.nd 238 (.lf 233 JY) (.lf 238 JZ)))) (.nd 262 (.nd 250 (.lf 243 J0) (.nd 257 (.lf 250 J1) (.lf 257 J2))) (.nd 267 (.lf 262 J3) (.nd 274 (.lf 267 J4) (.lf 274 J5)))))) (.nd 395 (.nd 329 (.nd 305 (.nd 300 (.lf 281 J6) (.lf 300 J7)) (.nd 310 (.lf 305 J8) (.nd 315 (.lf 310 J9) (.lf 315 Ka)))) (.nd 362 (.nd 336 (.lf 329 Kb) (.nd 343 (.lf 336 Kc) (.lf 343 Kd))) (.nd 376 (.lf 362 Ke) (.nd 383 (.lf 376 Kf) (.lf 383 Kg))))) (.nd 467 (.nd 409 (.nd 402 (.lf 395 Kh) (.lf 402 Ki)) (.nd 418 (.lf 409 Kj) (.nd 432 (.lf 418 Kk) (.lf 432 Kl)))) (.nd 500 (.nd 474 (.lf 467 Km) (.nd 479 (.lf 474 Ko) (.lf 479 Kq))) (.nd 507 (.lf 500 Kr) (.nd 514 (.lf 507 Ks) (.lf 514 Kt))))))) (.nd 794 (.nd 665 (.nd 562 (.nd 540 (.nd 526 (.lf 519 Ku) (.lf 526 Kw)) (.nd 548 (.lf 540 Kx) (.nd 555 (.lf 548 Ky) (.lf 555 Kz)))) (.nd 598 (.nd 569 (.lf 562 KA) (.nd 576 (.lf 569 KC) (.lf 576 KD))) (.nd 623 (.lf 598 KE) (.nd 644 (.lf 623 KG) (.lf 644 KH))))) (.nd 742 (.nd 709 (.nd 687 (.lf 665 KI) (.lf 687 KJ)) (.nd 716 (.lf 709 KL) (.nd 737 (.lf 716 KN) (.lf 737 KO)))) (.nd 775 (.nd 749 (.lf 742 KP) (.nd 770 (.lf 749 KQ) (.lf 770 KR))) (.nd 782 (.lf 775 KS) (.nd 789 (.lf 782 KU) (.lf 789 KV)))))) (.nd 870 (.nd 823 (.nd 804 (.nd 799 (.lf 794 KW) (.lf 799 KY)) (.nd 811 (.lf 804 KZ) (.nd 818 (.lf 811 K0) (.lf 818 K1)))) (.nd 844 (.nd 830 (.lf 823 K2) (.nd 837 (.lf 830 K3) (.lf 837 K4))) (.nd 849 (.lf 844 K5) (.nd 863 (.lf 849 K6) (.lf 863 K7))))) (.nd 923 (.nd 904 (.nd 884 (.lf 870 K8) (.nd 891 (.lf 884 Jz) (.lf 891 K9))) (.nd 911 (.lf 904 La) (.nd 916 (.lf 911 Lb) (.lf 916 Lc)))) (.nd 938 (.nd 928 (.lf 923 Ld) (.nd 933 (.lf 928 Le) (.lf 933 Lf))) (.nd 943 (.lf 938 Lg) (.nd 948 (.lf 943 Lh) (.lf 948 Li))))))))
noncomputable def cR:Tab:=λa=>M2.get a
noncomputable def cU:rC:=λa=>lk a sD
theorem ac{a:Nat}{D:aJ}{E:aM}{l:List (Nat×aM)}(f:FK D E) (h:∀ e∈l,∃ fd,cP.fn e.1=some fd/\FK fd e.2/\ae1 fd.di=true) (b:cP.fn a=some D:=by kernel_rfl) (c:ae1 D.di=true:=by kernel_rfl):∀ e∈(a,E)::l,∃ fd,cP.fn e.1=some fd/\FK fd e.2/\ae1 fd.di=true:=all_cons (dJ D b f c) h
theorem VK:∀ e∈M2.list,∃ fd,cP.fn e.1=some fd/\FK fd e.2/\ae1 fd.di=true:=
 ac Zx (ac Zy (ac Zz (ac ZA (ac ZC (ac ZD (ac ZE (ac ZF (ac ZG (ac ZH (ac ZI (ac ZJ (ac ZK (ac ZL (ac ZM (ac ZN (ac ZO (ac ZP (ac ZQ (ac ZR (ac ZT (ac ZU (ac ZV (ac ZW (ac ZX (ac ZY (ac ZZ (ac Z0 (ac Z1 (ac Z2 (ac Z3 (ac Z4 (ac Z5 (ac Z6 (ac Z7 (ac Z8 (ac Z9 (ac aaa (ac aab (ac aac (ac aad (ac aae (ac aaf (ac aag (ac aah (ac aai (ac aaj (ac aak (ac aal (ac aam (ac aan (ac aao (ac aap (ac aaq (ac aar (ac aas (ac aat (ac aau (ac aav (ac aaw (ac aax (ac aay (ac aaz (ac aaA (ac aaB (ac aaC (ac aaD (ac aaE (ac aaF (ac aaG (ac aaH (ac aaI (ac aaJ (ac aaK (ac aaL (ac aaM (ac aaN (ac aaO (ac Zw (ac aaP (ac aaQ (ac aaR (ac aaS (ac aaT (ac aaU (ac aaV (ac aaW (ac aaX (ac aaY all_nil))))))))))))))))))))))))))))))))))))))))))))))))))))))))))))))))))))))))))))))))))))))))
theorem Xn (gx:GX W):mz W cR cU:=⟨λa E h=>(cK (VK (a,E) (BT.mem h)) λb c d e=>(dJ b (gx.g▸c) (d W gx) e)),λa f h=>gx.g▸h⟩
section
variable{prog:ae9}{w:afq}{sl:KX}{θ:Nat->Nat->O}{cond:Nat->Bool}{src:List (aez×List ael)}{os:afw}
theorem GZ (sl:KX):∀ e∈(36,ur)::oE,xa sl.K e=xb e:=aim.mp (congrArg (·.2.1) sl.ok)
theorem aaZ (sl:KX):∀ C∈uo,m4 sl.K C 36/\keepIn sl.K (.ref C)=true:=λC h=>ade (aim.mp (congrArg (·.2.2) sl.ok) C h)
structure AllB(K:afV):Prop where
 exm:M0 K=true
 nam:Cj K=true
 boot:Jq K=true
 keep:Jr K=true
 cu:Js K=true
 att:Ck K=true
 init:Jt K=true
 bm:kg K=true
 turn:(ji.all λp=>tD K p.1 "turn" p.2)=true
 hd:(lY.all λp=>ju K p.1 p.2)=true
 exc:nsIn K afa "Exception" =some none
 nt:noTabs K=true
theorem allB_of{K:afV}(h:allB K=true):AllB K:=by
 refine ae (aei.mp h) ?_;clear h;intro a b;refine ae (aei.mp a) ?_;clear a;intro c d;refine ae (aei.mp c) ?_;clear c;intro e k;refine ae (aei.mp e) ?_;clear e;intro l m;refine ae (aei.mp d) ?_;clear d;intro n o;refine ae (aei.mp b) ?_;clear b;intro f g;refine ae (aei.mp f) ?_;clear f;intro p q;refine ae (aei.mp g) ?_;clear g;intro i j;refine ae (aei.mp i) ?_;clear i;intro r s;refine ae (aei.mp j) ?_;clear j;intro t w;refine ae (aei.mp w) ?_;clear w;intro w u;exact⟨l,m,k,n,o,p,q,r,s,t,beq_iff_eq.mp w,u⟩
theorem mo (sl:KX):AllB sl.K:=allB_of (congrArg (·.1) sl.ok)
theorem VL (sl:KX) (d:W.K=sl.K):sU W 36:=by
 obtain⟨l,n,params,o,p,r,t,u,v,x,f,g,a,h,b⟩:=GY (GZ sl _ (.head _));have c:=(aei.mp h).1;have ex:=(mo sl).exc;rw[←d]at a c b ex;refine⟨(O8 f _ g VC (w9 a) (by kernel_rfl) (by kernel_rfl) c rfl rfl (by kernel_rfl) (by kernel_rfl) (by kernel_rfl) (by kernel_rfl) (λe m w s X=>kp_binds X λS=>?_)),ex⟩
 have q:=b 0 (Nat.succ_pos _) (λi=>([e,m,w][i]?).getD .none) S
 have j:lF (λi=>([e,m,w][i]?).getD .none) (ur.params.length-0)=[e,m,w]:=by kernel_rfl
 have k:ur.params=([("self" :Str),"message","spot"]:List Str):=by kernel_rfl
 rw[j,Nat.sub_zero,ahJ,k]at q;exact q
theorem gx:GX (jM prog w sl θ cond src os):=⟨rfl,aaZ sl,VL sl rfl,(mo sl).turn,(mo sl).hd,(mo sl).bm,rfl⟩
theorem mM:mz (jM prog w sl θ cond src os) cR cU:=Xn gx
theorem mi:og (jM prog w sl θ cond src os) cQ:=TP gx
theorem TQ:(oE.all λe=>Ju e.2)=true:=by kernel_rfl
theorem VM{K:afV}(h:Cj K=true) (e:(x,v)∈Ah) (a:T.K=K){α N}:∃ val,nsIn K afa x=some (some val)/\VR T α N val v:=by
 have q:=aeK.mp h (x,v) e;dsimp only at q;generalize nsIn K afa x=o at q ⊢;induction o using aeB with
 |none=>exact aX q
 |some o=> induction o using aeB with
  |none=>exact aX q
  |some val=>exact (ay val rfl (Jp a q))
theorem Xo{K:afV}(h:Ck K=true){l}(e:(C,l)∈sC) (b:x∈l):ajv K C x=true/\hasDictIn K C=true/\(∃ a,ags K (.ref C) x=some a/\noGet K a=true)/\ ags K (.ref C) "__setattr__" =some (some (.builtin "object.__setattr__"))/\plainOver K C=true/\takerIn K C x=some none:=by
 refine ae (aei.mp (aeK.mp (aeK.mp h _ e) _ b)) ?_;clear h e b;intro c i;refine ae (aei.mp c) ?_;clear c;intro d j;refine ae (aei.mp d) ?_;clear d;intro f k;refine ae (aei.mp f) ?_;clear f;intro g w;refine ae (aei.mp g) ?_;clear g;intro m n;refine (Fu m n ?_ (beq_iff_eq.mp k) j (beq_iff_eq.mp i));generalize ags K (.ref C) x=o at w ⊢;induction o using aeB with
 |none=>exact aX w
 |some a=>exact (ay a rfl w)
theorem gok (q:jh (jM prog w sl θ cond src os).kt) (s:∀ n,∃ b,θ 7 n=.bool b) (t:∀ f k n,below n (θ f k)=true) (u:∀ k,∃ a r,θ 0 k=.tup (a::.int 0::r)/\a.sure=true) (y:∀ k,∃ l:List Str,θ 2 k=.hl (l.map .str)) (z:∀ k,∃ x,θ 5 k=.str x):Cw (jM prog w sl θ cond src os):=by
 have B:=mo sl;refine⟨q,s,t,u,y,z,λx v e F N=>VM B.nam (Gd e) rfl,λx e=>?_,λa o e=>TK (GZ sl (a,o) (.tail _ (iA e))) (aeK.mp TQ (a,o) (iA e)),λa e=>?_,λC h f e=>?_,λC h e=>?_,λC f e=>?_⟩
 ·refine ae (aei.mp (aeK.mp B.boot x (Fk e))) λc d=>?_
  exact⟨beq_iff_eq.mp c,beq_eq_false_iff_ne.mp ((aeT _).mp d)⟩
 ·refine ae (aei.mp B.keep) λA D=>?_
  rcases e with e|e
  ·refine aL (ah9.mp e) λv i=>?_
   exact aeK.mp A _ (iA i)
  ·refine aL (ah9.mp e) λv i=>?_
   exact aeK.mp D _ (iA i)
 ·refine Y (aR (show aD none (lk C vT) (bw h)=some f from e) nofun) ?_;clear e;intro l j e;refine ae (aei.mp (aeK.mp (aeK.mp B.cu _ (iA j)) _ (Gd e))) λg E=>?_
  refine ae (aei.mp g) λp m=>?_
  refine ae (aei.mp p) ?_;clear p;intro c d;exact (j6 c (beq_iff_eq.mp d) m E)
 ·refine Y (aR (show aD false (lk C sC) (jw h)=true from e) nofun) ?_;clear e;intro l j e;exact Xo B.att (iA j) (Fk e)
 ·refine ae (aei.mp (aeK.mp B.init _ (iA (show lk C sD=some f from e)))) ?_;clear B e;intro g m;refine ae (aei.mp g) ?_;clear g;intro c d;exact (bH c (beq_iff_eq.mp d) m)
end
def xd (a:Nat):Bool:=aew (Nat.land (Nat.shiftRight (nat_lit 58932379627151830875139217156252475216175575713184952896968642426399875476142532199742152708834142175127105649307633611698715821926908970257241479346262554055969968608292202632877009102007975011989286420782363889713792491946412858947853209071773161681297455350045362360612296478255020507160) a) (nat_lit 1)) (nat_lit 1)
def lj (g:Nat->Option Obj):Frag:=(af2 963).filterMap λa=>aex none ((g a).map λo=>(a,o)) (xd a)
theorem TR{g:Nat->Option Obj}{a:Nat}{o:Obj}(h:(lj g).lookup a=some o):g a=some o:=by
 obtain⟨b,_,c⟩:=aic.mp (mem_of_lookupK h);replace c:aex (motive:=λ_=>Option (Nat×Obj)) none ((g b).map λo=>(b,o)) (xd b)=some (a,o):=c
 cases q:xd b with
 |false=>rw[q]at c;cases c
 |true=>
  rw[q]at c;obtain⟨d,e,c⟩:=af8.mp (show (g b).map (λo=>(b,o))=some (a,o) from c)
  cases c
  exact e
abbrev pw:=ai3
abbrev jO:=ahD
def NN:Nat:=20000
def qv:Program:=view pw [82]
def lsN:List Str:=pw.boundNames.filter λn=>!(n ==("law" :Str))
def m8:DefRec:=match Ba 82 with
 |some (.FunctionDef n a b _ _ _ sc _ _ c)=>⟨n,a,b,sc,c⟩
 |_=>⟨"",⟨[],[],none,[],[],none,[]⟩,[],⟨.function,[],false,false,[]⟩,⟨0,0,0,0⟩⟩
def mP:List Nat:=lY.map (·.2)
def tK:Hook where
 α:=List (Option Obj)×Bool×List um×List uq;obs:=λs=>(mP.map s.heap.get?,obs (lj s.heap.get?))
 val:=λ_=>(mP.map λ_=>some (afn #[]),val)
 says:=λ_ h=>(∃ b:KX,b.K.In h)/\∀ P∈mP,h.get? P=some (afn #[])
 of:=λw s x=>⟨⟨⟨lj s.heap.get?,(ae8 x).2⟩,λa o e=>TR e⟩,aim.mp (ae8 x).1⟩
 keeps:=λw h d x k=>⟨let⟨b,X⟩:=x.1;⟨b,λa o e=>k _ _ (X a o e)⟩,λP c=>k _ _ (x.2 P c)⟩
namespace HT
noncomputable section
def M3 (st:(Code->Sem PySem.Fin)->ae9->afq->SharedT->Thread->Option (SharedT×Thread)) (a:Nat->Option ael->Thread->Bool) (b:Code->Sem PySem.Fin) (p:ae9) (w:afq) (c:Nat) (d:Option ael) (n:Nat):SharedT->Thread->Option SharedT:=
 af6 (λ_ _=>none) (λ_ e s t=>aex (aex none (ae2 none (λx=>e x.1 x.2) (st b p w s t)) (a c d t)) (some s) (through t)) n
abbrev kh:=M3 stepT stepOk (denote ajf)
abbrev jr:=M3 PySem.W.Fast.tw10156331382660048174 PySem.W.Fast.tw6613529449190102663 (PySem.W.Fast.tw11892475500146522536 PySem.W.Fast.tw14364793385576792824)
theorem VN:jr=kh:=by
 unfold jr kh;rw[PySem.W.Fast.te10156331382660048174,PySem.W.Fast.te11892475500146522536,PySem.W.Fast.te14364793385576792824,PySem.W.Fast.te6613529449190102663]
theorem Xp:∀ {s:SharedT}{t:Thread},kh p w a b n s t=some d->topRun ajf p w a b n s.abs t=some d.abs:=by
 induction n with
 |zero=>exact λh=>nomatch h
 |succ n g=>
  intro s t h;replace h:(aex (aex none (ae2 none (λx=>kh p w a b n x.1 x.2) (stepT (denote ajf) p w s t)) (stepOk a b t)) (some s) (through t):Option SharedT)=some d:=h
  unfold topRun
  cases e:through t with
  |true=>rw[e]at h;exact congrArg _ (congrArg SharedT.abs (aej h))
  |false=>
   rw[e]at h
   cases f:stepOk a b t with
   |false=>rw[f]at h;exact nomatch h
   |true=>
    rw[f]at h
    cases c:stepT (denote ajf) p w s t with
    |none=>rw[c]at h;exact nomatch h
    |some r=>rw[c]at h;dsimp only;rw[stepT_spec c];exact g h
def put (l:List Obj) (T:PySem.W.BT) (n:Nat):PySem.W.BT×Nat:=match l with
 |[]=>(T,n)
 |o::l=>put l (T.ins n o) (n+1)
def Lj (P:Params):PySem.W.BT×Nat:=put (agX P).objs.toList PySem.W.BT.nil 0
end
end HT
namespace HT
noncomputable section
theorem adu (P:Params):absHeap (Lj P).1 11 (agX P).life=agX P:=by kernel_rfl
theorem sz0 (P:Params):((agX P).isNs afa&&(ajH ([]:List GenState)).size ==0,(agX P).objs.size,(agX P).nsMap afa "__annotations__")=(true,11,some (.ref 6)):=by kernel_rfl
def S1(w:afq)(os:afw):SharedT:=⟨(Lj w.params).1,11,(agX w.params).life,ajH [],ajt,boot_toks,os⟩
theorem adv (w:afq) (os:afw):(S1 w os).abs=⟨agX w.params,ajH [],ajt,boot_toks,os⟩:=congrArg (λh=>(⟨h,ajH [],ajt,boot_toks,os⟩:aep)) (adu w.params)
abbrev Be (p:ae9) (P:Params) (s:aep):Bool:=staticsOk (importedModules p.main.body) (agX P) s.heap&&namesBound p s.heap&&gensDone s&&laidKept (agX P) s.heap
theorem LeftO.Xq{p q:ae9}{a:List Str}{b:aep->Bool}{α:Type}{c:aep->α}{g:afq->α}{N:Nat}(i:aeZ 600 N=true)
  (e:opening p=plainProg p.main.scope.names) (f:∀ s,fenceModules? p s=some s)
  (run:∀ (w:afq) (os:afw),(kh p w 11 (some (.ref 6)) N (S1 w os) (topStub p)).map (λS=>(Be p w.params S.abs,openSeen q a (importedModules p.main.body) b true S.abs,c S.abs))=some (true,openGood q a,g w)):LeftO p q a b c g N:=λw=>by
 obtain ⟨⟨h,j,d,k,os⟩,l,m⟩:=af8.mp (boot_open (p:=p) (N:=N) e i f w)
 obtain ⟨rfl,rfl,rfl,rfl⟩:h=agX w.params/\j=ajH []/\d=ajt/\k=boot_toks:=by simpa using m
 obtain ⟨n,o,u⟩:_/\_/\_:=by simpa only [ajj]using sz0 w.params
 obtain ⟨S,v,x⟩:=af8.mp (run w os)
 have r:=Xp v
 rw [adv]at r
 obtain ⟨y,z,A⟩:_/\_/\_:=by simpa only [ajj]using x
 have t:topFrom ajf p w N ⟨agX w.params,ajH [],ajt,boot_toks,os⟩=some S.abs:=by
  unfold topFrom
  dsimp only
  rw [n,o,u,r]
  show (match Be p w.params S.abs with|true=>_|false=>_)=_
  rw [y]
 unfold openEnds
 rw [l]
 show (topFrom ajf p w N _).map _=_
 rw [t]
 exact congrArg some (Prod.ext z A)
end
end HT
theorem aa0{α d:Type}{f c:α->Option d}{l:List α}:(∀ a,a∈l->f a=c a)->l.filterMap f=l.filterMap c:=by
 induction l with
 |nil=>exact λ_=>rfl
 |cons a l e=> intro h;rw[aiV,aiV,h a (.head _),e λb g=>h b (.tail _ g)]
theorem TS{g b:Nat->Option Obj}(h:∀ a,a<963->g a=b a):lj g=lj b:=
 aa0 λa c=>congrArg (λo:Option Obj=>(aex none (o.map λo=>(a,o)) (xd a):Option (aez×Obj))) (h a (agO.mp c))
def rx (S:SharedT)(a:Nat):Option Obj:=alive ((S.tree.get a).getD default)
theorem Fn{S:SharedT}(b:aeZ 963 S.n=true){a:Nat}(c:a<963):S.abs.heap.get? a=rx S a:=by
 show (absHeap S.tree S.n S.life).get? a=_;unfold Heap.get? rx;rw[absHeap_at,if_pos (aet c (aer b))];generalize (S.tree.get a).getD default=o;obtain⟨_,_,dt,_⟩:=o
 cases dt<;>rfl
theorem adw:opening pw=plainProg pw.main.scope.names:=by kernel_rfl
theorem adx:∀ s,fenceModules? pw s=some s:=by intro s;kernel_rfl
abbrev Ox(s:aep):Bool:=xlAt qv [] s&&recOk [] s
theorem VO (w:afq) (os:afw):(HT.jr pw w 11 (some (.ref 6)) NN (HT.S1 w os) (topStub pw)).map (λS=>(HT.Be pw w.params S.abs,PySem.W.Fast.tw4187177175401517315 qv lsN (importedModules pw.main.body) Ox true S.abs,and (aeZ 963 S.n) (mP.all λP=>aeZ P 962),mP.map (rx S),obs (lj (rx S))))=some (true,openGood qv lsN,true,mP.map (λ_=>some (afn #[])),val):=by kernel_rfl
theorem aa1:LeftO pw qv lsN Ox tK.obs tK.val NN:=by
 refine HT.LeftO.Xq rfl adw adx λw os=>?_
 have t:=VO w os;rw[HT.VN,←PySem.W.Fast.te4187177175401517315]at t;obtain⟨S,e,h⟩:=af8.mp t;obtain⟨c,h⟩:=ae8 h;obtain⟨d,h⟩:=ae8 h;obtain⟨b,h⟩:=ae8 h;obtain⟨f,g⟩:=ae8 h;obtain⟨b,i⟩:=aei.mp b;have j:mP.map S.abs.heap.get?=mP.map (rx S):=List.map_congr_left λP k=>Fn b (ahw (aer (aeK.mp i P k)))
 have l:lj S.abs.heap.get?=lj (rx S):=TS λa m=>Fn b m
 rw[e];refine congrArg some (Prod.ext c (Prod.ext d (Prod.ext (j.trans f) ?_)));show obs (lj S.abs.heap.get?)=val;rw[l];exact g
theorem aa2:ahD.wellSaid=true:=by
 delta OpenLaw.wellSaid OpenRow.wellSaid OpenRow.partSaid looksOpen
 repeat' with_reducible refine look_both ?_ ?_
 all_goals decide +kernel
structure Fm where
 w:O
 t:O
 p:O
 e:O
 g:List O
noncomputable def j9(a:List O):O:=.tup [.str pD,.int 0,.tup a]
noncomputable def jx(x:Str):O:=.tup [.str x,.tup [],.tup []]
noncomputable def fU:Fm:=⟨j9 [jx dY],.tup [.str il,.str dY],.tup [.str il,.str dY],.tup [.str il,.str dY],[]⟩
noncomputable def fBo:Fm:=⟨j9 [jx lV],.tup [.str lV],.tup [.str lV],.tup [.str lV],[]⟩
noncomputable def fT:Fm:=⟨j9 [jx cO],.tup [.str fu,.str cO],.tup [.str fu,.str cO],.tup [.str fu,.str cO],[]⟩
noncomputable def gU:O:=.tup [.str s4,.str lC,.tup [],.tup []]
noncomputable def fE:Fm:=⟨j9 [jx o5,jx fJ,jx o6],gU,gU,gU,[]⟩
noncomputable def DD(r a:O):O:=.tup [.str s0,.int 0,r,.bool true,a]
noncomputable def l4(r a:O):O:=.tup [.str s0,r,.bool true,a]
noncomputable def fA (x:Fm):Fm:=⟨DD (.str lD) x.w,l4 (.str lD) x.t,l4 (.str lD) x.p,l4 .none x.e,.str lD::x.g⟩
noncomputable def fS (x:Fm):Fm:=⟨DD (.str gw) x.w,l4 (.str gw) x.t,l4 (.str gw) x.p,l4 (.str gw) x.e,.str gw::x.g⟩
noncomputable def tu(a:O):O:=.tup [.str s3,.tup [a,a]]
noncomputable def Oy(x:Fm):Fm:=⟨.tup [.str s3,.int 0,.tup [x.w,x.w]],tu x.t,tu x.p,tu x.e,x.g++x.g⟩
noncomputable def ar(a:O):O:=.tup [.str s2,a,.int 3]
noncomputable def Oz(x:Fm):Fm:=⟨.tup [.str s2,.int 0,x.w,.int 3],ar x.t,ar x.p,ar x.e,x.g⟩
noncomputable def bx(a:O):O:=.tup [.str s1,a]
noncomputable def OA(x:Fm):Fm:=⟨j9 [.tup [.str yK,.tup [],.tup [x.w]]],bx x.t,bx x.p,bx x.e,x.g⟩
noncomputable def fBase(t:Bool):List Fm:=[fU,aex fBo fT t,fE]
noncomputable def Lk(r:Bool)(x:Fm):List Fm:=aex [fS x,Oy x,Oz x,OA x] [fA x,fS x,Oy x,Oz x,OA x] r
noncomputable def bE (r t:Bool):Nat->List Fm
 |0=>fBase t
 |n+1=>fBase t++(bE r t n).flatMap (Lk r)
noncomputable def fO:Fm:=⟨DD .none fU.w,l4 (.str gw) fU.t,l4 .none fU.t,l4 (.str gw) fU.t,[.str gw]⟩
noncomputable def gI:List Fm:=fO::bE false false 1
noncomputable def ady (d:O->O->Bool) (a b:O):Bool:=O.casesOn (motive_1:=λc=>Bool) a (j4 false b true) (λx=>i9 false b λy=>x ==y) (λx=>dU false b λy=>decide (x=y)) (λx=>afM false b λy=>seq x y) (λl=>cF false b λr=>mL d l r) (λl=>lq false b λr=>mL d l r) (λc c=>false)
 (λc=>false) (λc=>false) (λc c=>false) (λc c=>false) (λc c=>false) false (λc=>false)
noncomputable def bz (n:Nat):O->O->Bool:=af6 (motive:=λa=>O->O->Bool) (λa a=>false) (λa b=>ady b) n
theorem Gf{f:O->O->Bool}(d:∀ {a b},f a b=true->a=b/\lh a=true):∀ {r:List O},mL f l r=true->l=r/\kX l=true:=by
 induction l with
 |nil=>exact λh=>⟨(sW h).symm,rfl⟩
 |cons a l e=> intro r h;refine aH (mh h) ?_;clear h;intro b m c g i;subst c;refine ae (d g) ?_;clear d g;intro c j;subst c;refine ae (e i) ?_;clear e i;intro c k;subst c;exact ⟨rfl,aei.mpr ⟨j,k⟩⟩
theorem eL:∀ {a b:O},bz n a b=true->a=b/\lh a=true:=by
 induction n with
 |zero=>exact λh=>nomatch h
 |succ n d=> intro a b h;induction a using O.casesOn with
  |none=>exact⟨(nL h nofun).1.symm,rfl⟩
  |bool x=>refine Y (pT h nofun) ?_;clear h;intro y c h;subst c;exact⟨congrArg _ (beq_iff_eq.mp h),rfl⟩
  |int x=>refine Y (jU h nofun) ?_;clear h;intro y c h;subst c;exact⟨congrArg _ (of_decide_eq_true h),rfl⟩
  |str x=>refine Y (gD h nofun) ?_;clear h;intro y c h;subst c;exact⟨congrArg _ (gG.mp h),rfl⟩
  |tup l=> refine Y (dP h nofun) ?_;clear h;intro r c h;subst c;refine ae (Gf d h) ?_;intro c q;subst c;exact⟨rfl,q⟩
  |hl l=> refine Y (su h nofun) ?_;clear h;intro r c h;subst c;refine ae (Gf d h) ?_;clear d;intro c q;subst c;exact⟨rfl,q⟩
  |_=>exact aX h
noncomputable def gb (x:Rs) (r:O):Bool:=Rs.casesOn (motive:=λa=>Bool) x (λv=>bz 12 v r) (λa=>false) false
theorem Xr (h:gb x r=true):x=.ok r/\lh r=true:=by
 induction x using Rs.casesOn with
 |ok v=>refine ae (eL (show bz 12 v r=true from h)) ?_;intro a q;subst a;exact⟨rfl,q⟩
 |_=>exact aX h
noncomputable def fi (m:Nat) (f:O) (args:List O) (l:List AO) (loc:List (Nat×O)):Rs:=jl cR cU cQ m f args (gn l loc) (fW l.length)
theorem TU{m:Nat}{f:O}{args:List O}{l:List AO}{loc:List (Nat×O)}:fi m f args l loc=fi m f args l []:=by
 induction m using aeI with
 |zero=>rfl
 |succ m=> unfold fi;show eP cR cU cQ (jl cR cU cQ m) f args (gn l loc) (fW l.length)=eP cR cU cQ (jl cR cU cQ m) f args (gn l []) (fW l.length);induction f using O.casesOn<;>rfl
noncomputable def fj (l:List Fm) (f:Fm->Bool):Bool:=aeL true (λx b a=>and (f x) a) l
theorem dE{l:List Fm}{f:Fm->Bool}(h:fj l f=true):∀ x∈l,f x=true:=by
 induction l with
 |nil=>intro x b;cases b
 |cons a l d=>
  have c:and (f a) (fj l f)=true:=h;rw[afd]at c;intro x b;rcases aeA.mp b with rfl|b
  ·exact c.1
  ·exact d c.2 x b
noncomputable def dA (r:Bool):AO:=.dict (match r with|true=>[(lD,.none)]|false=>[])
noncomputable def dT (t:Bool):AO:=.dict (match t with|true=>[(cO,.tup [.str fu,.str cO])]|false=>[])
noncomputable def lM:List AO:=[.own,.obj 601 [(ip,.ref 2),(nG,.ref 3),(nH,.ref 4),(pC,.ref 5),(rT,.bR)],
 .dict [(dj,.str kA),(fh,.str jK),(jv,.str gA),(ui,.str uh),(fJ,.str kA),(o9,.str jK),(lC,.str lX),(MQ,.str xQ),(MR,.str xQ),(uj,.str gR)],
 .dict [(dj,.bool true),(fh,.bR),(jv,.bR),(ui,.bR),(fJ,.bool true),(o9,.bR),(lC,.bool true),(uj,.bR)],
 .dict [(dj,.ref 7),(fJ,.ref 10)],
 .dict [(fh,.bR),(jv,.bR),(o9,.bR),(lC,.tup [.tup [],.tup []])],
 .own,.obj 482 [(rS,.ref 8),(yR,.bR),(pG,.bR)],.dict [(fh,.bR),(jv,.bR),(fJ,.str fJ)],
 .own,.obj 482 [(rS,.ref 11),(yR,.bR),(pG,.bR)],.dict [(B8,.bR),(o6,.str lC)]]
noncomputable def gens (t:Bool):O:=.hl (match t with|true=>[.str cO]|false=>[])
noncomputable def yk(r:Bool)(l:List O):List O:=match r with|true=>.str lD::l|false=>l
noncomputable def pp0 (r t:Bool):Bool:=fj (bE r t 2) λx=>gb (fi 10 (.glob 233) [x.t] [] []) (.bool true)
noncomputable def DE (r t:Bool) (l:List O):Bool:=fj (bE r t 2) λx=>gb (fi 10 (.glob 163) [x.t,.tup (yk r l),.int 0] [] []) .none
noncomputable def pp2 (r t:Bool):Bool:=fj (bE r t 2) λx=>gb (fi 10 (.glob 115) [x.t,.cu 136 .bR] [] []) x.t
noncomputable def pp3 (r t:Bool):Bool:=fj (bE r t 2) λx=>gb (fi 10 (.glob 110) [x.t] [] []) (.hl x.g)
noncomputable def pp4 (r t:Bool):Bool:=fj (bE r t 2) λx=>gb (fi 10 (.glob 267) [x.t,.bY 3 [(1,0)]] [.cell (some (.ref 1)),dA r] []) x.e
noncomputable def pp5 (r t:Bool):Bool:=fj (bE r t 2) λx=>gb (fi 10 (.glob 262) [x.e,.ref 0] [dT t] []) x.e
noncomputable def OB (r t:Bool) (a:O):Bool:=fj (bE r t 2) λx=>gb (fi 18 (.glob 228) [.ref 1,a,gens t,.bR,x.w] lM []) x.p
noncomputable def pc0:Bool:=fj gI λx=>gb (fi 10 (.glob 233) [x.p] [] []) (.bool true)
noncomputable def pc1:Bool:=fj gI λx=>gb (fi 10 (.glob 163) [x.t,.tup [],.int 0] [] []) .none
noncomputable def pc2:Bool:=fj gI λx=>gb (fi 10 (.glob 115) [x.p,.bY 1 []] [] []) x.t
noncomputable def pc6:Bool:=fj gI λx=>gb (fi 18 (.glob 228) [.ref 1,.str dj,gens false,.bR,x.w] lM []) x.p
theorem ok0:∀ r t,pp0 r t=true:=by intro r t;induction r using aen<;>induction t using aen<;>kernel_rfl
theorem adz:∀ r t,DE r t []=true:=by intro r t;induction r using aen<;>induction t using aen<;>kernel_rfl
theorem adA:∀ r t,DE r t [.str h9]=true:=by intro r t;induction r using aen<;>induction t using aen<;>kernel_rfl
theorem adB:∀ r t,DE r t [.str h9,.str Ce]=true:=by intro r t;induction r using aen<;>induction t using aen<;>kernel_rfl
theorem C7:∀ r t,pp2 r t=true:=by intro r t;induction r using aen<;>induction t using aen<;>kernel_rfl
theorem ok3:∀ r t,pp3 r t=true:=by intro r t;induction r using aen<;>induction t using aen<;>kernel_rfl
theorem ok4:∀ r t,pp4 r t=true:=by intro r t;induction r using aen<;>induction t using aen<;>kernel_rfl
theorem ok5:∀ r t,pp5 r t=true:=by intro r t;induction r using aen<;>induction t using aen<;>kernel_rfl
theorem adC:∀ r t,OB r t (.str dj)=true:=by intro r t;induction r using aen<;>induction t using aen<;>kernel_rfl
theorem adD:∀ r t,OB r t (.str fJ)=true:=by intro r t;induction r using aen<;>induction t using aen<;>kernel_rfl
theorem oc0:pc0=true:=by kernel_rfl
theorem oc1:pc1=true:=by kernel_rfl
theorem oc2:pc2=true:=by kernel_rfl
theorem oc6:pc6=true:=by kernel_rfl
section
structure Dm where
 r:Bool
 t:Bool
 nf:Nat
 lo:Bool
 sf:Nat
noncomputable def iY(n:Nat):Str:=match n with
 |0=>ki
 |1=>s0
 |_=>s8
noncomputable def AF (r t:Bool):O:=.tup [.str s4,.str fh,.tup (match r with|true=>[.str lD]|false=>[]),.tup (match t with|true=>[.tup [.str fu,.str cO]]|false=>[])]
noncomputable def Bf:O:=.tup [.str fu,.str ky]
noncomputable def yl(g:O)(a:Nat)(b:O):O:=match a with
 |0=>b
 |1=>.tup [.str s0,g,.bool false,b]
 |_=>.tup [.str s0,g,.bool true,b]
noncomputable def g8 (r t:Bool) (k a:Nat):O:=match k with
 |0=>yl .none a Bf
 |1=>yl (.str h9) a Bf
 |2=>yl .none a (AF r t)
 |3=>yl (.str h9) a (AF r t)
 |4=>(match a with|0=>.str h9|_=>.str Ce)
 |_=>.none
noncomputable def yV(a:Dm)(k:Nat):O:=match aew k 5 with
 |true=>.bool a.lo
 |false=>g8 a.r a.t k a.sf
noncomputable def yW (tok:Nat->Fm)(bl:Nat->Bool)(a:Dm)(f k:Nat):O:=match f with
 |0=>(tok k).w
 |1=>(tok k).t
 |2=>.hl (tok k).g
 |3=>(tok k).e
 |4=>(tok k).p
 |5=>.str (iY a.sf)
 |7=>.bool (bl k)
 |20=>yV a k
 |_=>.none
structure gp(r t:Bool)(tok:Nat->Fm):Prop where
 all:∀ k,k≠9->tok k∈bE r t 2
 c:tok 9∈gI
variable{prog:ae9}{w:afq}{sl:KX}{tok:Nat->Fm}{bl:Nat->Bool}{dm:Dm}{cond:Nat->Bool}{src:List (aez×List ael)}{os:afw}
noncomputable abbrev ba (prog:ae9) (w:afq) (sl:KX) (tok:Nat->Fm) (bl:Nat->Bool) (dm:Dm) (cond:Nat->Bool) (src:List (aez×List ael)) (os:afw):Wd:=jM prog w sl (yW tok bl dm) cond src os
theorem qA:∀ {a b:O},bz n a b=true->mA π n a b=true:=by
 induction n with
 |zero=>exact λh=>nomatch h
 |succ n d=>
  have c:∀ {l r:List O},mL (bz n) l r=true->mL (mA π n) l r=true:=by
   intro l;induction l with
   |nil=>intro r h;exact h
   |cons a l e=>
    intro r h;refine aH (mh h) ?_;intro b i w f g;subst w;exact aei.mpr ⟨d f,e g⟩
  intro a b h;induction a using O.casesOn with
  |tup l=>refine Y (dP h nofun) ?_;clear h;intro r w h;subst w;exact c h
  |hl l=>refine Y (su h nofun) ?_;clear h;intro r w h;subst w;exact c h
  |none=>exact h
  |bool x=>exact h
  |int x=>exact h
  |str x=>exact h
  |_=>exact aX h
theorem aP.less (h:aP c n A) (a:m<=n):aP c m A:=⟨h.frames,aeE (agJ (Nat.mul_le_mul_left _ a) _) h.depth,aeE (agJ (Nat.mul_le_mul_left _ a) _) h.units,h.handled⟩
theorem sq{c:Cx (ba prog w sl tok bl dm cond src os)}(e:ak c) (g:aP c n A) (h:m<=n) (R:SR c σ s α N) (j:π.Nodup) (k:∀ i∈π,i<σ.n) (l:π.length=l₀.length) (o:l₀.length<=1024) (p:lU π 8 σ.st l₀ 0=true) (q:mA π 16 f₀ f=true) (t:mL (mA π 16) args₀ args=true) (b:gb (fi m f₀ args₀ l₀ []) r=true) (u:VR (ba prog w sl tok bl dm cond src os).kt α N x f) (y:ah (ba prog w sl tok bl dm cond src os).kt α N vals args){Q:ael->aep->Prop}{E}(z:∀ v d a,SR c σ d α a->bh σ α N σ α a->VR (ba prog w sl tok bl dm cond src os).kt α a v r->Q v d) (B:A9 l₀=true:=by rfl):WP (ba prog w sl tok bl dm cond src os) A (afl x vals) Q E s:=by
 refine ae (Xr b) ?_;clear b;intro C D;exact Ry (zT mM mi m) e (g.less h) R j k l o p q t D (λF=>TU.trans C) u y z B
noncomputable def ppD (r t:Bool):Bool:=fj (bE r t 2) λx=>and (and (bz 16 x.t x.t) (bz 16 x.e x.e)) (and (bz 16 x.p x.t) (bz 16 x.w x.w))
noncomputable def pcD:Bool:=fj gI λx=>and (and (bz 16 x.t x.t) (bz 16 x.e x.e)) (and (bz 16 x.p x.p) (bz 16 x.w x.w))
theorem yX:∀ r t,ppD r t=true:=by intro r t;induction r using aen<;>induction t using aen<;>kernel_rfl
theorem DF:pcD=true:=by kernel_rfl
section
variable{r t:Bool}{k:Nat}(H:gp r t tok)(hk:k≠9)
include H hk
theorem pb:mA π 16 (tok k).t (tok k).t=true:=by
 exact qA (aei.mp (aei.mp (dE (yX r t) _ (H.all k hk))).1).1
theorem ym:mA π 16 (tok k).e (tok k).e=true:=by
 exact qA (aei.mp (aei.mp (dE (yX r t) _ (H.all k hk))).1).2
theorem adE:(tok k).p=(tok k).t:=by
 exact (eL (aei.mp (aei.mp (dE (yX r t) _ (H.all k hk))).2).1).1
theorem M4:mA π 16 (tok k).w (tok k).w=true:=by
 exact qA (aei.mp (aei.mp (dE (yX r t) _ (H.all k hk))).2).2
end
section
variable{r t:Bool}(H:gp r t tok)
include H
theorem adF:mA π 16 (tok 9).t (tok 9).t=true:=by
 exact qA (aei.mp (aei.mp (dE DF _ H.c)).1).1
theorem M5:mA π 16 (tok 9).p (tok 9).p=true:=by
 exact qA (aei.mp (aei.mp (dE DF _ H.c)).2).1
theorem adG:mA π 16 (tok 9).w (tok 9).w=true:=by
 exact qA (aei.mp (aei.mp (dE DF _ H.c)).2).2
end
theorem iq (h:mA π 16 a b=true):mL (mA π 16) [a] [b]=true:=aei.mpr ⟨h,rfl⟩
theorem eW (h:mA π 16 a b=true) (h':mL (mA π 16) l r=true):mL (mA π 16) (a::l) (b::r)=true:=aei.mpr ⟨h,h'⟩
theorem hX (h:VR T α N v (.ty f k)):VR T α N v (T.θ f k):=h.inv
noncomputable def n9 (k:Nat):Bool:=not (aew k (nat_lit 9))
theorem RJ{b:Type}{z y₀:b}{f:aez->O->b}(h:vW z a f=y₀):z=y₀\/∃ x v,a=.cu x v/\f x v=y₀:=by
 by_cases w:y₀=z
 ·exact .inl w.symm
 ·exact .inr (Ei h w)
noncomputable def uP{a b:Type}(z:a) (l:List b) (f:b->a):a:=aeC (motive:=λw=>a) l z λx r=>j8 z r (f x)
theorem Xs{b c:Type}{z y₀:b}{l:List c}{f:c->b}(h:uP z l f=y₀) (a:y₀≠z):∃ x,l=[x]/\f x=y₀:=by
 induction l using aeC with
 |nil=>exact absurd h.symm a
 |cons x r=>refine ae (kL h a) ?_;clear h a;intro w h;subst w;exact (ay x rfl h)
noncomputable def jD (n:Nat) (args:List O):Option O:=iS none args λa=>iK none a λf k=>aN none (and (aeZ (nat_lit 10) n) (or (and (aew f (nat_lit 1)) (n9 k)) (and (aew f (nat_lit 4)) (aew k (nat_lit 9))))) (some (.bool true))
noncomputable def rF (r:Bool) (n:Nat) (args:List O):Option O:=gf none args λa l=>lQ none l λkn z=>iK none a λf k=>dU none z λi=>aN none
 (and (and (aeZ (nat_lit 10) n) (decide (i=0))) (and (aew f (nat_lit 1)) (or (and (n9 k) (or (bz (nat_lit 4) (.tup (yk r [])) kn) (or (bz (nat_lit 4) (.tup (yk r [.str h9])) kn) (bz (nat_lit 4) (.tup (yk r [.str h9,.str Ce])) kn)))) (and (aew k (nat_lit 9)) (bz (nat_lit 4) (.tup []) kn))))) (some .none)
noncomputable def jz (n:Nat) (args:List O):Option O:=lQ none args λa b=>iK none a λf k=>vW (wg none b λi w=>j8 none w (aN none (and (aeZ (nat_lit 10) n) (and (and (aew f (nat_lit 4)) (aew k (nat_lit 9))) (aew i (nat_lit 1)))) (some (.ty (nat_lit 1) (nat_lit 9))))) b
 λg c=>aN none (and (aeZ (nat_lit 10) n) (and (and (aew f (nat_lit 1)) (n9 k)) (aew g (nat_lit 136)))) (some (.ty (nat_lit 1) k))
noncomputable def OC (n:Nat) (args:List O):Option O:=iS none args λa=>iK none a λf k=>aN none (and (aeZ (nat_lit 10) n) (and (aew f (nat_lit 1)) (n9 k))) (some (.ty (nat_lit 2) k))
noncomputable def OD (r:Bool) (n:Nat) (args:List O) (σ:LS):Option O:=lQ none args λa b=>iK none a λf k=>wg none b λi d=>uP none d λc=>aD none (σ.st.get c.2) λo=>qn none o λv=>aD none v λw=>jg none w λq=>
 aN none (and (and (and (aeZ (nat_lit 10) n) (and (afu c.2 σ.n) (afu q σ.n))) (and (and (aew f (nat_lit 1)) (n9 k)) (and (aew i (nat_lit 3)) (and (aew c.1 (nat_lit 1)) (not (aew c.2 q)))))) (lU [c.2,q] (nat_lit 8) σ.st [.cell (some (.ref (nat_lit 1))),dA r] (nat_lit 0))) (some (.ty (nat_lit 3) k))
noncomputable def OE (t:Bool) (n:Nat) (args:List O) (σ:LS):Option O:=lQ none args λa b=>iK none a λf k=>jg none b λp=>aN none (and (and (and (aeZ (nat_lit 10) n) (afu p σ.n)) (and (aew f (nat_lit 3)) (n9 k))) (lU [p] (nat_lit 8) σ.st [dT t] (nat_lit 0))) (some (.ty (nat_lit 3) k))
noncomputable def cV (o:Option O):Nat:=match o with
 |some (.ref i)=>i
 |_=>nat_lit 0
noncomputable def agv (st:Tr)(i:Nat):List (Str×O):=match st.get i with
 |some (.obj a w)=>w
 |some (.dict w)=>w
 |_=>[]
noncomputable def jP (st:Tr)(c:Nat):List Nat:=
 let w:=cV (bw nH (agv st c));let a:=cV (bw dj (agv st w));let b:=cV (bw fJ (agv st w));[ago c,c,cV (bw ip (agv st c)),cV (bw nG (agv st c)),w,cV (bw pC (agv st c)),ago a,a,cV (bw rS (agv st a)),ago b,b,cV (bw rS (agv st b))]
noncomputable def Ll (n:Nat) (l:List Nat):Bool:=aeL true (λa b w=>and (afu a n) w) l
noncomputable def xP (l:List Nat):Bool:=aeL true (λa l w=>and (not (cM a l)) w) l
noncomputable def OF (t:Bool) (n:Nat) (args:List O) (σ:LS):Option O:=gf none args λa r=>jg none a λw=>gf none r λb r=>gf none r λc r=>gf none r λd r=>iS none r λx=>iK none x λf k=>
 aN none (and (and (aeZ (nat_lit 18) n) (aew f (nat_lit 0))) (and (d.sure) (and (and (Ll σ.n (jP σ.st w)) (xP (jP σ.st w))) (lU (jP σ.st w) (nat_lit 8) σ.st lM (nat_lit 0))))) (aex (motive:=λe=>Option O) (aN none (and (bz (nat_lit 2) (.str dj) b) (bz (nat_lit 4) (gens false) c)) (some (.ty (nat_lit 4) k))) (aN none (and (or (bz (nat_lit 2) (.str dj) b) (bz (nat_lit 2) (.str fJ) b)) (bz (nat_lit 4) (gens t) c)) (some (.ty (nat_lit 1) k))) (n9 k))
noncomputable def yY:List (Nat×Nat):=[(233,0),(163,1),(115,2),(110,3),(267,4),(262,5),(228,6)]
noncomputable def tL(r t:Bool)(n:Nat)(f:O)(args:List O)(σ:LS):Option O:=match f with
 |.glob a=>(match lk a yY with
  |none=>none
  |some 0=>jD n args
  |some 1=>rF r n args
  |some 2=>jz n args
  |some 3=>OC n args
  |some 4=>OD r n args σ
  |some 5=>OE t n args σ
  |some 6=>OF t n args σ
  |_=>none)
 |_=>none
end
section
variable{prog:ae9}{w:afq}{sl:KX}{tok:Nat->Fm}{bl:Nat->Bool}{dm:Dm}{cond:Nat->Bool}{src:List (aez×List ael)}{os:afw}
theorem mQ(h:n9 k=true):k≠9:=λe=>by subst e;exact aX h
theorem aa3(h:n9 k=false):k=9:=by
 unfold n9 at h;induction q:aew k 9 using aen with
 |true=>exact aem q
 |false=>rw[q]at h;exact gr h
section
variable{c:Cx (ba prog w sl tok bl dm cond src os)}{A:ae6}{n m:Nat}{σ:LS}{s:aep}{α:List aez}{N:Led}{fv:ael}{vals:List ael}{Q:ael->aep->Prop}{E:ael->aep->Prop}
theorem adH (p q:Nat):mA [p,q] 16 (.bY 3 [(1,0)]) (.bY 3 [(1,p)])=true:=by
 show and true (and (and true (aew p p)) true)=true;rw [afI];rfl
theorem adI (p:Nat):mA [p] 16 (.ref 0) (.ref p)=true:=by
 show mI [p] 0 p=true;exact afI p
theorem kI (e:ak c) (f:aP c n A) (g:m<=n) (R:SR c σ s α N) (i:mL (mA [] 16) args₀ args=true) (j:gb (fi m (.glob a) args₀ [] []) r=true) (k:VR (ba prog w sl tok bl dm cond src os).kt α N fv (.glob a)) (l:ah (ba prog w sl tok bl dm cond src os).kt α N vals args) (o:∀ v d b,SR c σ d α b->bh σ α N σ α b->VR (ba prog w sl tok bl dm cond src os).kt α b v r->Q v d):WP (ba prog w sl tok bl dm cond src os) A (afl fv vals) Q E s:=
 sq e f g R (π:=[]) (l₀:=[]) .nil (λp h=>by cases h) rfl (afj _) rfl (show mA [] 16 (.glob a) (.glob a)=true from afI a) i j k l o
variable{r t:Bool}(H:gp r t tok)
include H
noncomputable abbrev m9 (c:Cx (ba prog w sl tok bl dm cond src os))(σ:LS)(α:List aez)(N:Led)(a:O)(Q:ael->aep->Prop):Prop:=∀ v n m,SR c σ n α m->bh σ α N σ α m->VR (ba prog w sl tok bl dm cond src os).kt α m v a->Q v n
theorem Xt (i:ak c) (j:aP c n A) (R:SR c σ s α N) (h:jD n args=some a) (l:VR (ba prog w sl tok bl dm cond src os).kt α N fv (.glob 233)) (o:ah (ba prog w sl tok bl dm cond src os).kt α N vals args) (p:m9 c σ α N a Q):WP (ba prog w sl tok bl dm cond src os) A (afl fv vals) Q E s:=by
 replace h:=jc h aO;refine Y h ?_;clear h;intro x b h;subst b;replace h:=jX h aO;refine be h ?_;clear h;intro f k b h;subst b;refine ae (aS h aO) ?_;clear h;intro m h;have b:=aej h;subst a;refine ae (aei.mp m) ?_;clear m;intro d m;have d:=aer d;refine Y (kT o rfl) ?_;clear o;intro v b q;subst b;rcases (afT _ _).mp m with m|m
 ·refine ae (aei.mp m) λe g=>?_
  obtain rfl:=aem e;have u:=mQ g;exact kI i j d R (iq (pb H u)) (dE (ok0 r t) _ (H.all k u)) l (.cons (hX q) .nil) p
 ·refine ae (aei.mp m) ?_;clear m;intro e g;obtain rfl:=aem e;obtain rfl:=aem g;exact kI i j d R (iq (M5 H)) (dE oc0 _ H.c) l (.cons (hX q) .nil) p
theorem Xu (j:ak c) (o:aP c n A) (R:SR c σ s α N) (h:rF r n args=some a) (p:VR (ba prog w sl tok bl dm cond src os).kt α N fv (.glob 163)) (C:ah (ba prog w sl tok bl dm cond src os).kt α N vals args) (q:m9 c σ α N a Q):WP (ba prog w sl tok bl dm cond src os) A (afl fv vals) Q E s:=by
 replace h:=g9 h aO;refine be h ?_;clear h;intro P l b h;subst b;replace h:=mn h aO;refine be h ?_;clear h;intro kn z b h;subst b;replace h:=jX h aO;refine be h ?_;clear h;intro f k b h;subst b;replace h:=jU h aO;refine Y h ?_;clear h;intro i b h;subst b;refine ae (aS h aO) ?_;clear h;intro D h;have b:=aej h;subst a;refine ae (aei.mp D) ?_;clear D;intro F G;refine ae (aei.mp F) ?_;clear F;intro d I;refine ae (aei.mp G) ?_;clear G;intro L M;have d:=aer d;obtain rfl:=of_decide_eq_true I;obtain rfl:=aem L;have u:mA [] 16 (.int 0) (.int 0)=true:=rfl;refine aH (C.ck rfl) ?_;clear C;intro S T b v x;subst b;rcases (afT _ _).mp M with y|y
 ·refine ae (aei.mp y) λB m=>?_
  have g:=mQ B;rcases (afT _ _).mp m with m|m
  ·have e:=(eL m).1;subst e;exact kI j o d R (eW (pb H g) (eW (by induction r using aen<;>rfl) (iq u))) (dE (adz r t) _ (H.all k g)) p (.cons (hX v) x) q
  ·rcases (afT _ _).mp m with m|m
   ·have e:=(eL m).1;subst e;exact kI j o d R (eW (pb H g) (eW (by induction r using aen<;>rfl) (iq u))) (dE (adA r t) _ (H.all k g)) p (.cons (hX v) x) q
   ·have e:=(eL m).1;subst e;exact kI j o d R (eW (pb H g) (eW (by induction r using aen<;>rfl) (iq u))) (dE (adB r t) _ (H.all k g)) p (.cons (hX v) x) q
 ·refine ae (aei.mp y) ?_;clear y;intro B m;obtain rfl:=aem B;have e:=(eL m).1;subst e;exact kI j o d R (eW (adF H) (eW rfl (iq u))) (dE oc1 _ H.c) p (.cons (hX v) x) q
theorem Xv (M:ak c) (P:aP c n A) (R:SR c σ s α N) (h:jz n args=some a) (S:VR (ba prog w sl tok bl dm cond src os).kt α N fv (.glob 115)) (i:ah (ba prog w sl tok bl dm cond src os).kt α N vals args) (T:m9 c σ α N a Q):WP (ba prog w sl tok bl dm cond src os) A (afl fv vals) Q E s:=by
 replace h:=mn h aO;refine be h ?_;clear h;intro a0 b0 m e;subst m;replace e:=jX e aO;refine be e ?_;clear e;intro qa k m W;subst m;rcases RJ W with d|⟨qb,x,rfl,d⟩
 ·replace d:=zH d aO;refine be d ?_;clear d;intro qc aK m f;subst m;replace f:=kL f aO;refine ae f ?_;clear f;intro m X;subst m;refine ae (aS X aO) λj l=>?_
  have m:=aej l;subst a;refine ae (aei.mp j) λb o=>?_
  refine ae (aei.mp o) λp u=>?_
  refine ae (aei.mp p) λy z=>?_
  have b:=aer b;obtain rfl:=aem y;obtain rfl:=aem z;obtain rfl:=aem u;refine aH (i.ck rfl) ?_;intro Z vs m B g;subst m;exact kI M P b R (args₀:=[(tok 9).p,.bY 1 []]) (eW (M5 H) rfl) (dE oc2 _ H.c) S (.cons (hX B) g) λv C D F G I=>T v C D F G (.ty I)
 ·refine ae (aS d aO) λj l=>?_
  have m:=aej l;subst a;refine ae (aei.mp j) λb o=>?_
  refine ae (aei.mp o) λp u=>?_
  refine ae (aei.mp p) λy z=>?_
  have b:=aer b;obtain rfl:=aem y;obtain rfl:=aem u;have V:=mQ z;refine aH (jW i rfl) ?_;clear i;intro Z v2 m B g;subst m;refine eJ g.inv λL L qd L L q=>?_
  have hx:x.sure=true:=i7 q;exact kI M P b R (args:=[(tok k).t,.cu 136 x]) (args₀:=[(tok k).t,.cu 136 .bR]) (eW (pb H V) (iq (show and (aew 136 136) (mA [] 15 .bR x)=true from hx))) (dE (C7 r t) _ (H.all k V)) S (.cons (hX B) (.cons g .nil)) λv C D F G I=>T v C D F G (.ty I)
theorem Xw (o:ak c) (p:aP c n A) (R:SR c σ s α N) (h:OC n args=some a) (q:VR (ba prog w sl tok bl dm cond src os).kt α N fv (.glob 110)) (e:ah (ba prog w sl tok bl dm cond src os).kt α N vals args) (u:m9 c σ α N a Q):WP (ba prog w sl tok bl dm cond src os) A (afl fv vals) Q E s:=by
 replace h:=jc h aO;refine Y h ?_;clear h;intro L m b;subst m;replace b:=jX b aO;refine be b ?_;clear b;intro f k m g;subst m;refine ae (aS g aO) ?_;clear g;intro i x;have m:=aej x;subst a;refine ae (aei.mp i) ?_;clear i;intro d j;refine ae (aei.mp j) ?_;clear j;intro y z;have d:=aer d;obtain rfl:=aem y;have l:=mQ z;refine Y (kT e rfl) ?_;clear e;intro v m B;subst m;exact kI o p d R (iq (pb H l)) (dE (ok3 r t) _ (H.all k l)) q (.cons (hX B) .nil) λv C D F G I=>u v C D F G (.ty I)
theorem Xx (y:ak c) (z:aP c n A) (R:SR c σ s α N) (h:OD r n args σ=some a) (B:VR (ba prog w sl tok bl dm cond src os).kt α N fv (.glob 267)) (l:ah (ba prog w sl tok bl dm cond src os).kt α N vals args) (C:m9 c σ α N a Q):WP (ba prog w sl tok bl dm cond src os) A (afl fv vals) Q E s:=by
 replace h:=mn h aO;refine be h ?_;clear h;intro a0 b0 m b;subst m;replace b:=jX b aO;refine be b ?_;clear b;intro qc k m d;subst m;replace d:=zH d aO;refine be d ?_;clear d;intro qd aK m e;subst m;replace e:=Xs e aO;refine Y e ?_;clear e;intro m D;subst D;intro F;obtain ⟨x,p⟩:=m;refine Y (aR F aO) λqe hg f=>?_
 replace f:=vp f aO;refine Y f ?_;clear f;intro v m g;subst m;replace g:=aR g aO;refine Y g ?_;clear g;intro w' m i;subst m;replace i:=i3 i aO;refine Y i ?_;clear i;intro q m G;subst m;refine ae (aS G aO) λI L=>?_
 have m:=aej L;subst a;refine ae (aei.mp I) λM P=>?_
 refine ae (aei.mp M) λS T=>?_
 refine ae (aei.mp S) λj V=>?_
 refine ae (aei.mp V) λW X=>?_
 refine ae (aei.mp T) λZ hb5=>?_
 refine ae (aei.mp Z) λw1 w2=>?_
 refine ae (aei.mp hb5) λw3 hb6=>?_
 refine ae (aei.mp hb6) λw4 o=>?_
 have j:=aer j;obtain rfl:=aem w1;obtain rfl:=aem w3;obtain rfl:x=1:=aem w4;have u:=mQ w2;have eT:p≠q:=λqa=>by subst qa;rw [show aew p p=true from afI p] at o;exact aX o
 refine aH (l.ck rfl) ?_;clear l;intro v1 vs m CO CP;subst m;exact sq y z j R (π:=[p,q]) (l₀:=[.cell (some (.ref 1)),dA r]) (ae3.mpr ⟨λqb=>eT (aev.mp qb),afe _ _⟩) (eV (aer W) (rI (aer X))) rfl (show 2<=1024 by decide) P (show mA [p,q] 16 (.glob 267) (.glob 267)=true from rfl) (args₀:=[(tok k).t,.bY 3 [(1,0)]]) (eW (pb H u) (iq (adH p q))) (dE (ok4 r t) _ (H.all k u)) B (.cons (hX CO) CP) λv s' N' R' g' h'=>C v s' N' R' g' (.ty h')
theorem Xy (x:ak c) (y:aP c n A) (R:SR c σ s α N) (h:OE t n args σ=some a) (z:VR (ba prog w sl tok bl dm cond src os).kt α N fv (.glob 262)) (g:ah (ba prog w sl tok bl dm cond src os).kt α N vals args) (B:m9 c σ α N a Q):WP (ba prog w sl tok bl dm cond src os) A (afl fv vals) Q E s:=by
 replace h:=mn h aO;refine be h ?_;clear h;intro X Z m b;subst m;replace b:=jX b aO;refine be b ?_;clear b;intro f k m d;subst m;replace d:=i3 d aO;refine Y d ?_;clear d;intro p m i;subst m;refine ae (aS i aO) ?_;clear i;intro j C;have m:=aej C;subst a;refine ae (aei.mp j) ?_;clear j;intro l D;refine ae (aei.mp l) ?_;clear l;intro o q;refine ae (aei.mp o) ?_;clear o;intro e F;refine ae (aei.mp q) ?_;clear q;intro G I;have e:=aer e;obtain rfl:=aem G;have u:=mQ I;refine aH (g.ck rfl) ?_;clear g;intro v1 vs m L M;subst m;exact sq x y e R (π:=[p]) (l₀:=[dT t]) (afe _ _) (rI (aer F)) rfl (show 1<=1024 by decide) D (show mA [p] 16 (.glob 262) (.glob 262)=true from rfl) (args₀:=[(tok k).e,.ref 0]) (eW (ym H u) (iq (adI p))) (dE (ok5 r t) _ (H.all k u)) z (.cons (hX L) M) λv P S T V W=>B v P S T V (.ty W)
end
theorem TV:Ll n l=true->∀ i∈l,i<n:=by
 induction l with
 |nil=>exact λw w h=>nomatch h
 |cons a l b=> intro h;refine ae (aei.mp h) ?_;clear h;intro c d;exact eV (aer c) (b d)
theorem VP:xP l=true->l.Nodup:=by
 induction l with
 |nil=>exact λd=>.nil
 |cons a l w=> intro h;refine ae (aei.mp h) ?_;clear h;intro b c;exact ae3.mpr ⟨iy ((aeT _).mp b),w c⟩
end
section
section
variable{W:Wd}{c:Cx W}{A:ae6}{d:Nat}
theorem SR.settle (R:SR c σ s α N) (hL:∀ i,T<=i->i<σ.n->i∈L\/i=o\/i=d) (j:SR c r s' bG t) (g:bh ⟨σ.loc,σ.aK,σ.st,σ.n,σ.n,L++σ.mark⟩ α N r bG t) (eU:T<=r.lo)
  (I:r.st.get o=some (.list u)) (M:r.st.get d=some (.list w)) (d1:kX u=true) (d2:kX w=true) (lto:o<σ.n) (V:d<σ.n) (no:o∉σ.mark) (nd:d∉σ.mark):
  SR c ((σ.put o (.list u)).put d (.list w)) s' α t/\bh σ α N ((σ.put o (.list u)).put d (.list w)) α t:=by
 have p:=g.ge.pre
 have P:∀ i,i<σ.n->i<r.n:=λi h=>aet h g.n
 have Q:∀ i,i<σ.n->i<α.length:=λi h=>by rw[R.len];exact h
 have X:∀ i,i<σ.n->((σ.put o (.list u)).put d (.list w)).st.get i=if i=d then some (.list w) else if i=o then some (.list u) else σ.st.get i:=λi hi=>by
  have e1:((σ.put o (.list u)).put d (.list w)).st.get i=if i=d then some (.list w) else (σ.put o (.list u)).st.get i:=
   get_set R.wf.set (aet V R.bD) (aet hi R.bD)
  rw[e1,kO R lto hi]
 have oJ:∀ i,i<σ.n->i≠o->i≠d->r.st.get i=σ.st.get i:=λi hi I M=>by
  by_cases q:i<T
  ·exact g.same i (aet q eU)
  ·rcases hL i (Nat.le_of_not_lt q) hi with h|h|h
   ·exact (g.bf i (aeo _ h)).1
   ·exact absurd h I
   ·exact absurd h M
 have ge:Ge α N α t:=⟨afJ _,g.ge.keep,λu_ h=>.inl h,g.ge.tab⟩
 have dat:∀ {S:List ael}{l:List O},ah W.kt bG t S l->kX l=true->ah W.kt α t S l:=λh q=>h.data (λp' A f=>⟨A,λqb=>f (p.subset qb)⟩) q
 refine ⟨⟨?_,R.aK,j.news,j.nodup,R.inj,λi ob hi e=>?_,λa h=>j.all a (p.subset h),j.hi,R.wf.set.set,R.bD,R.len,aeE iz (aeE iz R.low),R.bt,j.gens,j.os,j.aZ⟩,⟨⟨ge,aeE iz iz,λi hi=>?_,aeD _,rfl,λi a ob hi A f nt=>?_,λi hi=>⟨?_,λa ob A f=>(g.bf i (aeu _ hi)).2 a ob A f⟩⟩,rfl⟩⟩
 ·refine Y j.fr λqa qc y=>?_
  refine Y R.fr λBF abB z=>?_
  refine (ay qa qc ?_)
  have hl:r.loc=σ.loc:=g.loc
  rw[hl]at y
  show NR c σ.loc α t qa
  unfold NR at y z ⊢
  induction q:c.comp using aeB with
  |none=>
   rw[q]at y z
   intro n v e
   refine cj (y n v e) λx k val A f m=>?_
   refine cj (z n v e) λx' k' adJ yF yy B=>?_
   exact ⟨x,k,val,A,f,B.cut p m⟩
  |some pr=>
   obtain ⟨qd,mf⟩:=pr
   rw[q]at y z
   refine kN y ?_;clear y;intro e ob m₂ A f m
   refine kN z ?_;clear z;intro e' ob' X9 yF yy B
   refine (nO e ob m₂ A f (λn v e=>?_))
   refine cj (m n v e) ?_;clear m;intro x k val A f m
   refine cj (B n v e) ?_;clear B;intro x' k' adJ yF yy B
   exact (dy x k val A f (B.cut p m))
 ·have hi:i<σ.n:=hi
  rw[X i hi]at e
  by_cases C:i=d
  ·rw[if_pos C]at e
   have D:=aej e;clear e;subst ob
   subst C
   refine aH (j.obj i _ (P i hi) M) ?_;clear M;intro a b E F G
   refine be G.inv ?_;intro S n D Z;subst D
   exact (bB a _ (jd p E (Q i hi)) F (.list (dat Z d2)))
  ·rw[if_neg C]at e
   by_cases H:i=o
   ·rw[if_pos H]at e
    have D:=aej e;clear e;subst ob
    subst H
    refine aH (j.obj i _ (P i hi) I) ?_;clear I;intro a b E F G
    refine be G.inv ?_;intro S n D Z;subst D
    exact (bB a _ (jd p E (Q i hi)) F (.list (dat Z d1)))
   ·rw[if_neg H]at e
    refine aH (R.obj i ob hi e) λabx lx z1 z2 z3=>?_
    refine aH (j.obj i ob (P i hi) ((oJ i hi H C).trans e)) ?_;clear j P oJ H C;intro a b E F G
    exact (bB a b (jd p E (Q i hi)) F (z3.cut p (Q i hi) G))
 ·have A:i<d:=aet hi ja
  have f:i<o:=aet hi (aeE iz ja)
  rw[X i (agt A V),if_neg (aeN A),if_neg (aeN f)]
 ·have m:i<d:=aet hi ja
  have h4:i<o:=aet hi (aeE iz ja)
  by_cases q:i<T
  ·exact g.obs i a ob (aet q eU) A f nt
  ·rcases hL i (Nat.le_of_not_lt q) (agt m V) with h|h|h
   ·exact (g.bf i (aeo _ h)).2 a ob A f
   ·exact absurd h (aeN h4)
   ·exact absurd h (aeN m)
 ·rw[X i (R.bt i hi),if_neg (λe:i=d=>nd (e▸hi)),if_neg (λe:i=o=>no (e▸hi))]
end
theorem cons_inv (h:ah T α N vs (a::l))(c:a.sure=true):∃ v b,vs=v::b/\VR T α N v a/\ah T α N b l:=h.ck c
theorem Fo (h:mA π n a b=true):b.sure=true:=by
 rcases fD b with⟨c,v,rfl⟩|d
 ·exact (GQ h).elim
 ·exact (show b.sure=ew b (λe e=>false) true by induction b using O.casesOn<;>rfl).trans (d _ _)
variable{prog:ae9}{w:afq}{sl:KX}{tok:Nat->Fm}{bl:Nat->Bool}{dm:Dm}{cond:Nat->Bool}{src:List (aez×List ael)}{os:afw}
theorem Xz{c:Cx (ba prog w sl tok bl dm cond src os)}{Q:ael->aep->Prop}{E:ael->aep->Prop}(H:gp r t tok)
  (hc:ak c) (hA:aP c n A) (R:SR c σ s α N){args a}(h:OF t n args σ=some a) (hf:VR (ba prog w sl tok bl dm cond src os).kt α N M (.glob 228)) (d:ah (ba prog w sl tok bl dm cond src os).kt α N vals args) (P:m9 c σ α N a Q):WP (ba prog w sl tok bl dm cond src os) A (afl M vals) Q E s:=by
 refine be (g9 h aO) ?_;clear h;intro a0 r0 b o;subst b;refine Y (i3 o aO) ?_;clear o;intro e b S;subst b;refine be (g9 S aO) ?_;clear S;intro T r1 b V;subst b;refine be (g9 V aO) ?_;clear V;intro W r2 b X;subst b;refine be (g9 X aO) ?_;clear X;intro Z r3 b h5;subst b;refine Y (jc h5 aO) ?_;clear h5;intro x b h6;subst b;refine be (jX h6 aO) ?_;clear h6;intro qa k b h7;subst b;refine ae (aS h7 aO) ?_;clear h7;intro f h;simp only [afd] at f;refine j5 f ?_;clear f;intro b y pv er;obtain⟨B,o⟩:=b;obtain⟨bN,iV⟩:=pv;have B:=aer B;obtain rfl:=aem o;have hmo:mA (jP σ.st e) 16 (.ref 1) (.ref e)=true:=by
  show mI (jP σ.st e) 1 e=true;exact afI e
 have hop:mA (jP σ.st e) 16 .bR Z=true:=y;have run:∀ {C D x},mA (jP σ.st e) 16 C T=true->mA (jP σ.st e) 16 D W=true->mA (jP σ.st e) 16 x x=true->(ba prog w sl tok bl dm cond src os).kt.θ 0 k=x->∀ {z},gb (fi 18 (.glob 228) [.ref 1,C,D,.bR,x] lM []) z=true->(∀ v j g,SR c σ j α g->bh σ α N σ α g->VR (ba prog w sl tok bl dm cond src os).kt α g v z->Q v j)->WP (ba prog w sl tok bl dm cond src os) A (afl M vals) Q E s:=by
  intro C D x m l e3 e4 z e5 hq;refine aH (cons_inv d rfl) ?_;clear d;intro w1 p b v1 d;subst b;refine aH (cons_inv d (Fo m)) ?_;clear d;intro w2 p b v2 d;subst b;refine aH (cons_inv d (Fo l)) ?_;clear d;intro w3 p b v3 d;subst b;refine aH (cons_inv d y) ?_;clear d y;intro w4 p b v4 d;subst b;refine aH (cons_inv d rfl) ?_;clear d;intro w5 p b v5 d;subst b;have OG:=hX v5;rw [e4] at OG;exact sq hc hA B R (π:=jP σ.st e) (l₀:=lM) (VP iV) (TV bN) rfl (show 12<=1024 by decide) er (show mA (jP σ.st e) 16 (.glob 228) (.glob 228)=true from rfl)
   (args:=[.ref e,T,W,Z,x]) (eW hmo (eW m (eW l (eW hop (iq e3))))) e5 hf (.cons v1 (.cons v2 (.cons v3 (.cons v4 (.cons OG d))))) hq
 induction i:n9 k using aen with
 |true=>
  rw [i] at h;have i:=mQ i;refine ae (aS h aO) ?_;clear h;intro f h;have b:=aej h;clear h;subst a;simp only [afd,afT] at f;refine ae f ?_;clear f;intro F G;have fin:∀ v j g,SR c σ j α g->bh σ α N σ α g->VR (ba prog w sl tok bl dm cond src os).kt α g v (tok k).p->Q v j:=λv j g I L u=>P v j g I L (.ty (by rw [adE H i] at u;exact u))
  have m:=(eL G).1;subst m;rcases F with q|q
  ·have l:=(eL q).1;subst l;exact run rfl (by induction t using aen<;>rfl) (M4 H i) rfl (dE (adC r t) _ (H.all k i)) fin
  ·have l:=(eL q).1;subst l;exact run rfl (by induction t using aen<;>rfl) (M4 H i) rfl (dE (adD r t) _ (H.all k i)) fin
 |false=>
  rw [i] at h;obtain rfl:=aa3 i;refine ae (aS h aO) ?_;clear h;intro f h;have b:=aej h;clear h;subst a;simp only [afd] at f;refine ae f ?_;clear f;intro F G;have m:=(eL G).1;subst m;have l:=(eL F).1;subst l;exact run rfl rfl (adG H) rfl (dE oc6 _ H.c) λv j g I L u=>P v j g I L (.ty u)
theorem Fp{c:Cx (ba prog w sl tok bl dm cond src os)}{Q:ael->aep->Prop}{E:ael->aep->Prop}(H:gp r t tok)
  (d:ak c) (g:aP c n A) (R:SR c σ s α N){f args a}(h:tL r t n f args σ=some a) (j:VR (ba prog w sl tok bl dm cond src os).kt α N m f) (k:ah (ba prog w sl tok bl dm cond src os).kt α N vals args) (l:m9 c σ α N a Q):WP (ba prog w sl tok bl dm cond src os) A (afl m vals) Q E s:=by
 unfold tL at h;split at h;rotate_left
 ·exact aT h
 rename_i b;have key:∀ i,lk b yY=some i->(b=233/\i=0)\/(b=163/\i=1)\/(b=115/\i=2)\/(b=110/\i=3)\/(b=267/\i=4)\/(b=262/\i=5)\/(b=228/\i=6):=by
  intro i e;have:=iA e;simp only[yY,aeA,ajj,ahj,or_false]at this;exact this
 induction e:lk b yY using aeB with
 |none=>rw[e]at h;exact aT h
 |some i=>
  rw[e]at h;rcases key i e with⟨rfl,rfl⟩|⟨rfl,rfl⟩|⟨rfl,rfl⟩|⟨rfl,rfl⟩|⟨rfl,rfl⟩|⟨rfl,rfl⟩|⟨rfl,rfl⟩
  ·exact Xt H d g R h j k l
  ·exact Xu H d g R h j k l
  ·exact Xv H d g R h j k l
  ·exact Xw H d g R h j k l
  ·exact Xx H d g R h j k l
  ·exact Xy H d g R h j k l
  ·exact Xz H d g R h j k l
end
section
set_option backward.match.sparseCases true
noncomputable def qB:List O:=[gU,ar gU,tu gU,ar (ar gU),ar (tu gU),tu (ar gU),tu (tu gU)]
noncomputable def lH:List AO:=[.own,.obj 346 [(g6,.bR),(fw,.bR),(f9,.bR)]]
noncomputable def anyB (a:O) (l:List O):Bool:=aeL false (λb d c=>aex c true (bz (nat_lit 16) a b)) l
theorem Gg:∀ {l:List O},anyB a l=true->a∈l
 |[],h=>by exact aX h
 |b::l,h=>by
  have h':(aex (motive:=λc=>Bool) (anyB a l) true (bz 16 a b))=true:=h
  induction q:bz 16 a b using aen with
  |true=>rw[(eL q).1];exact .head _
  |false=>rw[q]at h';exact .tail _ (Gg h')
noncomputable def ppL (r t:Bool):Bool:=fj (bE r t 2) λx=>or (anyB x.e qB) (gb (fi 10 (.glob 336) [.ref 1,x.e] lH []) .none)
theorem adK:∀ r t,ppL r t=true:=by intro r t;induction r using aen<;>induction t using aen<;>kernel_rfl
noncomputable def yn (l:List O) (f:O->Bool):Bool:=aeL true (λx b a=>and (f x) a) l
theorem Gh{f:O->Bool}(h:yn l f=true):∀ x∈l,f x=true:=by
 induction l with
 |nil=>intro x b;cases b
 |cons a l d=>
  have c:and (f a) (yn l f)=true:=h;rw[afd]at c;intro x b;rcases aeA.mp b with rfl|b
  ·exact c.1
  ·exact d c.2 x b
noncomputable def okN(x:Rs):Bool:=match x with
 |.ok .none=>true
 |_=>false
theorem G0(h:okN x=true):x=.ok .none:=by
 unfold okN at h;split at h
 ·rfl
 ·exact aX h
noncomputable def ng (o d:Nat) (m:Nat):Nat->List Nat:=af6 (motive:=λa=>Nat->List Nat) (λa=>[]) (λa b i=>aex (i::b (afk i)) (b (afk i)) (or (aew i o) (aew i d))) m
theorem VQ:∀ {i j:Nat},i<=j->j<i+m->j∈ng o d m i\/j=o\/j=d:=by
 induction m with
 |zero=>intro i j a b;omega
 |succ m c=>
  intro i j a b;show j∈(aex (motive:=λf=>List Nat) (i::ng o d m (afk i)) (ng o d m (afk i)) (or (aew i o) (aew i d)))\/_
  by_cases q:j=i
  ·subst q;induction e:or (aew j o) (aew j d) using aen with
   |false=>exact .inl (.head _)
   |true=>
    rw[afT]at e;rcases e with e|e
    ·exact .inr (.inl (aem e))
    ·exact .inr (.inr (aem e))
  ·have:=c (i:=i+1) (j:=j) (by omega) (by omega)
   rcases this with h|h
   ·left;induction e:or (aew i o) (aew i d) using aen with
    |false=>exact .tail _ h
    |true=>exact h
   ·exact .inr h
theorem VS:∀ {i j:Nat},j∈ng o d m i->j<i+m:=by
 induction m with
 |zero=>intro i j h;exact absurd h ahj
 |succ m b=>
  intro i j h;have a:j∈(aex (motive:=λc=>List Nat) (i::ng o d m (afk i)) (ng o d m (afk i)) (or (aew i o) (aew i d))):=h
  induction e:or (aew i o) (aew i d) using aen with
  |false=>
   rw[e]at a;rcases aeA.mp a with rfl|a
   ·omega
   ·have:=b a;omega
  |true=>
   rw[e]at a;have:=b a;omega
noncomputable def uT (o d e:Nat) (f g:List O):Kv:=λv c=>match v with
 |.none=>(match aeZ e c.lo with
  |true=>(match c.st.get o with
   |some (.list a)=>(match bz (nat_lit 16) (.hl f) (.hl a) with
    |true=>(match c.st.get d with
     |some (.list b)=>(match bz (nat_lit 16) (.hl g) (.hl b) with
      |true=>.ok .none
      |false=>.no)
     |_=>.no)
    |false=>.no)
   |_=>.no)
  |false=>.no)
 |_=>.no
theorem XA (h:uT o d j e f v c=.ok .none):v=.none/\j<=c.lo/\c.st.get o=some (.list e)/\c.st.get d=some (.list f)/\kX e=true/\kX f=true:=by
 unfold uT at h;split at h
 ·split at h
  ·rename_i k;split at h
   ·rename_i a l;split at h
    ·rename_i g;split at h
     ·rename_i b m;split at h
      ·rename_i i;refine ae (eL g) ?_;clear g;intro n p;refine ae (eL i) ?_;clear i;intro q r
       cases n;cases q
       exact (Fu rfl (aer k) l m p r)
      ·contradiction
     ·contradiction
    ·contradiction
   ·contradiction
  ·contradiction
 ·contradiction
noncomputable def yZ (n:Nat) (d:Call) (args:List O) (σ:LS) (k:Kv):Option Rs:=lQ none args λa b=>jg none a λh=>iK none b λf j=>
 aN none (and (and (and (aeZ (nat_lit 10) n) (aew f (nat_lit 3))) (and (n9 j) (afu h σ.n))) (and (afu (nat_lit 0) h) (lU [ago h,h] (nat_lit 8) σ.st lH (nat_lit 0)))) (aD none (σ.st.get (cV (bw fw (agv σ.st h)))) λo=>gF none o λg=>aD none (σ.st.get (cV (bw f9 (agv σ.st h)))) λo=>gF none o λc=> aex (motive:=λi=>Option Rs) (aN none (and (and (afu (cV (bw fw (agv σ.st h))) σ.n) (afu (cV (bw f9 (agv σ.st h))) σ.n)) (and (not (cM (cV (bw fw (agv σ.st h))) σ.mark)) (not (cM (cV (bw f9 (agv σ.st h))) σ.mark)))) (aN none (yn qB λe=>okN (d (.glob 336) [.ref h,e] ⟨σ.loc,σ.aK,σ.st,σ.n,σ.n,ng (cV (bw fw (agv σ.st h))) (cV (bw f9 (agv σ.st h))) (Nat.sub σ.n (jn (cV (bw fw (agv σ.st h))) (cV (bw f9 (agv σ.st h))))) (jn (cV (bw fw (agv σ.st h))) (cV (bw f9 (agv σ.st h))))++σ.mark⟩ (uT (cV (bw fw (agv σ.st h))) (cV (bw f9 (agv σ.st h))) (jn (cV (bw fw (agv σ.st h))) (cV (bw f9 (agv σ.st h)))) g (c++[gU])))) (some (join (k .none σ) (k .none ((σ.put (cV (bw fw (agv σ.st h))) (.list g)).put (cV (bw f9 (agv σ.st h))) (.list (c++[gU])))))))) (aN none (yn qB λe=>okN (d (.glob 336) [.ref h,e] ⟨σ.loc,σ.aK,σ.st,σ.n,σ.n,σ.mark⟩ (fW σ.n))) (some (k .none σ))) (anyB gU c))
variable{prog:ae9}{w:afq}{sl:KX}{tok:Nat->Fm}{bl:Nat->Bool}{dm:Dm}{cond:Nat->Bool}{src:List (aez×List ael)}{os:afw}
theorem G1{c:Cx (ba prog w sl tok bl dm cond src os)}{Q:ael->aep->Prop}{E:ael->aep->Prop}(H:gp r t tok) (ux:jb c A cal)
  (hc:ak c) (hA:aP c n A) (R:SR c σ s α N){args k y}(h:yZ n cal args σ k=some y) (hy:y≠.no) (F:VR (ba prog w sl tok bl dm cond src os).kt α N p (.glob 336)) (f:ah (ba prog w sl tok bl dm cond src os).kt α N vals args) (G:fZ c y σ α N k Q):WP (ba prog w sl tok bl dm cond src os) A (afl p vals) Q E s:=by
 refine be (mn h aO) ?_;clear h;intro a0 b0 b h;subst b;refine Y (i3 h aO) ?_;clear h;intro a b h;subst b;refine be (jX h aO) ?_;clear h;intro qe j b h;subst b;refine ae (aS h aO) ?_;clear h;intro I h;simp only [afd] at I;refine bU I ?_;clear I;intro b h4 er;obtain ⟨⟨L,M⟩,P,h3⟩:=b;have L:=aer L;obtain rfl:=aem M;have u:=mQ P;have bN:a<σ.n:=aer h3;have xJ:0<a:=aer h4;refine aH (jW f rfl) ?_;intro S v b T w2;subst b;have l:=hX w2;have l:VR (ba prog w sl tok bl dm cond src os).kt α N v (tok j).e:=l;have Lm:¬(tok j).e∈qB->k .none σ=y->WP (ba prog w sl tok bl dm cond src os) A (afl p [S,v]) Q E s:=by
  intro C5 jD;have q:=dE (adK r t) _ (H.all j u);rw [afT] at q;have q:=q.resolve_left λz=>C5 (Gg z)
  refine sq hc hA L R (π:=[ago a,a]) (l₀:=lH) (by simp;omega) (λi x=>?_) rfl (show 2<=1024 by decide) er (show mA [ago a,a] 16 (.glob 336) (.glob 336)=true from rfl) (args₀:=[.ref 1,(tok j).e]) (args:=[.ref a,(tok j).e])
   (eW (show mI [ago a,a] 1 a=true from afI a) (iq (ym H u))) q F (.cons T (.cons l .nil)) λqa B C d g' h'=>G _ _ _ _ _ _ jD d g' h'
  simp only [aeA,ahj,or_false] at x;rcases x with rfl|rfl
  ·exact agg (Nat.pred_le _) bN
  ·exact bN
 refine Y (aR h aO) ?_;clear h;intro o1 ho h;refine Y (pL h aO) ?_;clear h;intro l1 b h;subst b;refine Y (aR h aO) ?_;clear h;intro o2 hd h;refine Y (pL h aO) ?_;clear h;intro l2 b h;subst b;induction nB:anyB gU l2 using aen with
 |true=>
  rw [nB] at h;refine ae (aS h aO) ?_;clear h;intro V h;have b:=aej h;clear h;subst y;by_cases q:(tok j).e∈qB
  ·have z:=G0 (Gh V _ q);refine ux (.glob 336) [.ref a,(tok j).e] _ _ _ z (by intro h;contradiction) s α N E R.calm (λqc qd o B W C q=>by contradiction) p [S,v] F (.cons T (.cons l .nil)) (by
    have:=(ym H u (π:=[]));show ([O.ref a,(tok j).e].all O.sure)=true;rw [ahR,ahR,Ag this];rfl) Q λqb o qa B W C jD d g f=>?_
   refine ae (aS (show aN .no (aeZ σ.n o.lo) (fV σ.n qb o)=.ok .none from jD) nofun) λeU uS=>?_
   have gW:=si hc R d g f uS;refine ae (R.restore d g (aer eU)) ?_;clear eU;intro X Z;exact G _ _ _ _ _ _ rfl X Z gW
  ·exact Lm q rfl
 |false=>
  rw [nB] at h;refine ae (aS h aO) ?_;clear h;intro uV h;simp only [afd,aeT] at uV;refine bU uV ?_;clear uV;intro b no nd;obtain ⟨e,D⟩:=b;have e:=aer e;have D:=aer D;refine ae (aS h aO) ?_;clear h;intro V h;have b:=aej h;clear h;subst y;refine ae (md rfl hy) ?_;clear hy;intro y1 y2;by_cases q:(tok j).e∈qB
  ·have z:=G0 (Gh V _ q);have mk:SR c ⟨σ.loc,σ.aK,σ.st,σ.n,σ.n,_⟩ s α N:=(SR.calm R).marked (m:=ng (cV (bw fw (agv σ.st a))) (cV (bw f9 (agv σ.st a))) (Nat.sub σ.n (jn (cV (bw fw (agv σ.st a))) (cV (bw f9 (agv σ.st a))))) (jn (cV (bw fw (agv σ.st a))) (cV (bw f9 (agv σ.st a))))++σ.mark) (λi x=>(aeQ.mp x).elim (λz=>aet (VS z) (agh (aiS (agV (agg ja e))))) (R.bt i))
   refine ux (.glob 336) [.ref a,(tok j).e] _ _ _ z (by intro h;contradiction) s α N E mk (λqc qd o B W C q=>by contradiction) p [S,v] F (.cons T (.cons l .nil)) (by
    have:=(ym H u (π:=[]));show ([O.ref a,(tok j).e].all O.sure)=true;rw [ahR,ahR,Ag this];rfl) Q λqb o qa B W C jD d g f=>?_
   refine Ft (XA jD) ?_;clear jD;intro b c1 c2 c3 c4 c5;subst b;refine ae (R.settle (λi M P=>VQ M (aet P (agh (aiS (agV (agg ja e))).symm))) d g c1 c2 c3 c4 c5 e D (iy no) (iy nd)) ?_;clear R e d g c1 c2 c3 c4 c5 D no nd;intro X Z
   cases f
   exact G _ _ _ _ _ _ y2 X Z .none
  ·exact Lm q y1
set_option backward.match.sparseCases false
end
section
noncomputable abbrev Ext:=Nat->Call->O->List O->LS->Kv->Option Rs
noncomputable def sX (f:O):Bool:=match f with
 |.glob a=>aew a (nat_lit 336)
 |_=>false
theorem EH(h:sX f=true):f=.glob 336:=by
 unfold sX at h;split at h
 ·rw[aem h]
 ·exact aX h
noncomputable def qY (r t:Bool) (X:Ext) (n:Nat) (d:Call):Call:=λf c b k=>match X n d f c b k with
 |some y=>y
 |none=>(match tL r t (afk n) f c b with
  |some a=>k a b
  |none=>(match sX f with
   |true=>(match yZ (afk n) (eP cR cU cQ d) c b k with
    |some y=>y
    |none=>eP cR cU cQ d f c b k)
   |false=>eP cR cU cQ d f c b k))
noncomputable def oF (r t:Bool) (X:Ext) (n:Nat):Call:=af6 (λa a a a=>.no) (λn b=>qY r t X n b) n
noncomputable def xe (W:Wd) (X:Ext):Prop:=∀ n e,dw W n e->∀ (c:Cx W) A,ak c->aP c (n+1) A->∀ f d b k y,X n e f d b k=some y->y≠.no->∀ s a N E,SR c b s a N->jo c y b a N E->∀ g h,VR W.kt a N g f->ah W.kt a N h d->ae1 d=true->∀ Q,fZ c y b a N k Q->WP W A (afl g h) Q E s
noncomputable def vf:Ext:=λa a a a a a=>none
variable{prog:ae9}{w:afq}{sl:KX}{tok:Nat->Fm}{bl:Nat->Bool}{dm:Dm}{cond:Nat->Bool}{src:List (aez×List ael)}{os:afw}
theorem TX (H:gp r t tok) (G:xe (ba prog w sl tok bl dm cond src os) X):∀ n,dw (ba prog w sl tok bl dm cond src os) n (oF r t X n):=by
 intro n;induction n with
 |zero=>exact λc A i j f d b k y h l=>bO h l
 |succ n q=>
  intro c A i j f d b k y h l s B N E R C u x m o D Q p;have F:eP cR cU cQ (oF r t X n) f d b k=y->WP (ba prog w sl tok bl dm cond src os) A (afl u x) Q E s:=λh=>pY mM mi q c A i j f d b k y h l s B N E R C u x m o D Q p
  have g:(match X n (oF r t X n) f d b k with
   |some y=>y
   |none=>(match tL r t (afk n) f d b with
    |some a=>k a b
    |none=>(match sX f with
     |true=>(match yZ (afk n) (eP cR cU cQ (oF r t X n)) d b k with
      |some y=>y
      |none=>eP cR cU cQ (oF r t X n) f d b k)
     |false=>eP cR cU cQ (oF r t X n) f d b k)))=y:=h
  split at g
  ·rename_i I z;subst g;exact G n _ q c A i j f d b k _ z l s B N E R C u x m o D Q p
  ·split at g
   ·rename_i a L;exact Fp H i j R L m o λv V W M P S=>p _ _ _ _ _ _ g M P S
   ·split at g
    ·rename_i T;have e:=EH T;subst e;split at g
     ·rename_i I z;subst g;exact G1 H (pY mM mi q c A i j) i j R z l m o p
     ·exact F g
    ·exact F g
end
section
variable{prog:ae9}{w:afq}{sl:KX}{tok:Nat->Fm}{bl:Nat->Bool}{dm:Dm}{cond:Nat->Bool}{src:List (aez×List ael)}{os:afw}
set_option backward.match.sparseCases true
noncomputable def ll (P:O->Bool) (n:Nat):Kv:=λv w=>match aeZ n w.lo with
 |true=>(match fV n v w with
  |.ok r=>(match and (lh r) (P r) with
   |true=>.ok .none
   |false=>.no)
  |_=>.no)
 |false=>.no
theorem TY{P:O->Bool}(h:ll P n a b=.ok .none):aeZ n b.lo=true/\∃ r,fV n a b=.ok r/\lh r=true/\P r=true:=by
 unfold ll at h;split at h
 ·rename_i c;split at h
  ·rename_i r d;split at h
   ·rename_i w;rw[afd]at w;exact(Gn c r d w.1 w.2)
   ·contradiction
  ·contradiction
 ·contradiction
theorem adL{P:O->Bool}:jl cR cU cQ m f args (gn l loc) (ll P l.length)=jl cR cU cQ m f args (gn l []) (ll P l.length):=by
 induction m using aeI with
 |zero=>rfl
 |succ m=> show eP cR cU cQ (jl cR cU cQ m) f args (gn l loc) (ll P l.length)=eP cR cU cQ (jl cR cU cQ m) f args (gn l []) (ll P l.length);induction f using O.casesOn<;>rfl
theorem TZ{W:Wd}(HT:mz W cR cU) (e:og W cQ){c:Cx W}(g:ak c) (l:aP c n A) (o:m<=n) (R:SR c σ s α N) (p:π.Nodup) (q:∀ i∈π,i<σ.n) (t:π.length=l₀.length) (u:l₀.length<=1024) (x:lU π 8 σ.st l₀ 0=true) (y:∀ (j i k:Nat),l₀[j]?=some (.src k)->π[j]?=some i->i∉σ.mark) (z:mA π 16 f₀ f=true) (B:mL (mA π 16) args₀ args=true){P:O->Bool}(D:jl cR cU cQ m f₀ args₀ (gn l₀ []) (ll P l₀.length)=.ok .none) {vals:List ael}(F:VR W.kt α N G f) (H:ah W.kt α N vals args){Q:ael->aep->Prop}{E}(I:∀ r v d b,P r=true->SR c σ d α b->bh σ α N σ α b->VR W.kt α b v r->Q v d):WP W A (afl G vals) Q E s:=
 EF (zT HT e m) g (l.less o) R p q t u x y z B (K₀:=ll P l₀.length) (P:=λr=>P r=true) (y₀:=.ok .none) (by intro h;contradiction) (λC h=>by contradiction) (λa w h=>TY h) (λL=>adL.trans D) F H I
noncomputable def dz(x:Fm):O:=.hl [x.w,x.t]
noncomputable def AG (l:List Fm) (r:O):Bool:=aeL false (λx a w=>aex w true (bz (nat_lit 14) r (dz x))) l
theorem EI:∀ {l:List Fm},AG l r=true->∃ x∈l,r=dz x
 |[],h=>by exact aX h
 |x::l,h=>by
  have h':aex (motive:=λb=>Bool) (AG l r) true (bz 14 r (dz x))=true:=h
  induction q:bz 14 r (dz x) using aen with
  |true=>exact⟨x,.head _,(eL q).1⟩
  |false=>
   rw[q]at h';refine Y (EI h') ?_;clear h';intro y w a;exact (ay y (.tail _ w) a)
noncomputable def nh (r:Bool):O:=.tup (match r with|true=>[.str lD]|false=>[])
noncomputable def tA(t:Bool):O:=match t with|true=>.str cO|false=>.none
noncomputable def ka(r t:Bool):O:=.hl [nh r,tA t]
noncomputable def xf (r t:Bool) (d:Nat):Rs:=jl cR cU cQ 16 (.glob 911) [.ref 0,.int (.ofNat d),ka r t] (gn [.src 0] []) (ll (AG (bE r t d)) 1)
theorem XB:∀ r t,xf r t 2=.ok .none:=by intro r t;induction r using aen<;>induction t using aen<;>kernel_rfl
theorem XC:∀ r t,xf r t 1=.ok .none:=by intro r t;induction r using aen<;>induction t using aen<;>kernel_rfl
theorem VT{W:Wd}(HT:mz W cR cU) (l:og W cQ){c:Cx W}(m:ak c) (p:aP c n A) (q:16<=n) (R:SR c σ s α N) (u:σ.st.get i=some (.src k)) (y:i<σ.n) (z:i∉σ.mark) (B:xf r t d=.ok .none)
  {vals:List ael}(C:VR W.kt α N D (.glob 911)) (F:ah W.kt α N vals [.ref i,.int (.ofNat d),ka r t]){Q:ael->aep->Prop}{E}(G:∀ x∈bE r t d,∀ v e b,SR c σ e α b->bh σ α N σ α b->VR W.kt α b v (dz x)->Q v e):WP W A (afl D vals) Q E s:=by
 refine TZ HT l m p q R (π:=[i]) (l₀:=[.src 0]) (by simp) (λj H=>by rw [aev.mp H];exact y) rfl (show 1<=1024 by decide) ?_ (λj I T L w=>?_) (f₀:=.glob 911) rfl (args₀:=[.ref 0,.int (.ofNat d),ka r t]) ?_ B C F λa v e b f M g P=>?_
 ·show aD false (σ.st.get i) (λo=>and (mO [i] 8 0 (.src 0) o) true)=true
  rw [u];rfl
 ·induction j using aeI with
  |zero=>have h:=aej w;clear w;subst I;exact z
  |succ j=>simp at L
 ·refine eW (show mI [i] 0 i=true from afI i) (eW ?_ (iq ?_))
  ·exact decide_eq_true rfl
  ·induction r using aen<;>induction t using aen<;>rfl
 ·refine Y (EI f) ?_;clear f;intro x S h;subst h;exact G x S v e b M g P
noncomputable def gO (l:List Fm) (f:Fm->Rs):Rs:=aeL (motive:=λw=>Rs) .no (λx r a=>aeL (motive:=λw=>Rs) (f x) (λw w w=>join (f x) a) r) l
theorem Fq{f:Fm->Rs}(d:y≠.no):∀ {l:List Fm},gO l f=y->∀ x∈l,f x=y
 |[],h,x,c=>by cases c
 |[a],h,x,c=>by rw[aev.mp c];exact h
 |a::b::l,h,x,c=>by
  have h':join (f a) (gO (b::l) f)=y:=h;refine ae (md h' d) ?_;clear h';intro w e;rcases aeA.mp c with rfl|c
  ·exact w
  ·exact Fq d e x c
theorem zB{f:Fm->Rs}:∀ {l:List Fm},l≠[]->(∀ x∈l,f x=.ok .none)->gO l f=.ok .none
 |[],h,c=>absurd rfl h
 |[a],c,h=>h a (.head _)
 |a::b::l,c,h=>by
  show join (f a) (gO (b::l) f)=_;rw[h a (.head _),zB (by simp) λx d=>h x (.tail _ d)]
  exact zA rfl
noncomputable def vg(a:Nat)(f:O):Bool:=match f with
 |.glob b=>aew b a
 |_=>false
theorem G2(h:vg a f=true):f=.glob a:=by
 unfold vg at h;split at h
 ·rw[aem h]
 ·exact aX h
noncomputable def y3 (r:Bool) (b:O):Option (Bool×Bool):=aex (motive:=λw=>Option (Bool×Bool)) (aN none (bz 4 b (tA false)) (some (r,false))) (some (r,true)) (bz 4 b (tA true))
noncomputable def Ln (a:O):Option (Bool×Bool):=lq none a λl=>lQ none l λx b=>cF none x λl=>
 aex (motive:=λw=>Option (Bool×Bool)) (aN none (bz 4 (.tup l) (nh false)) (y3 false b)) (y3 true b) (bz 4 (.tup l) (nh true))
theorem G3 (h:y3 a b=some (r,t)):a=r/\b=tA t:=by
 unfold y3 at h;induction q:bz 4 b (tA true) using aen with
 |true=>rw[q]at h;have e:=ae8 (aej h);exact⟨e.1,(eL q).1.trans (congrArg tA e.2)⟩
 |false=>
  rw[q]at h;refine ae (aS h aO) λw c=>?_
  have e:=ae8 (aej c);exact⟨e.1,(eL w).1.trans (congrArg tA e.2)⟩
theorem T2 (h:Ln a=some (r,t)):a=ka r t:=by
 refine Y (su h aO) ?_;clear h;intro g w h;subst w;refine be (mn h aO) ?_;clear h;intro x b w h;subst w;refine Y (dP h aO) ?_;clear h;intro l w h;subst w;induction q:bz 4 (.tup l) (nh true) using aen with
 |true=>
  rw[q]at h;refine ae (G3 h) λc d=>?_
  rw[(eL q).1,d,←c];rfl
 |false=>
  rw[q]at h;refine ae (aS h aO) λe f=>?_
  refine ae (G3 f) λc d=>?_
  rw[(eL e).1,d,←c];rfl
noncomputable def Lo{a:Type}(z:a) (i:Int) (f:Nat->a):a:=Int.rec (motive:=λw=>a) f (λw=>z) i
theorem T3{a:Type}{z y₀:a}{f:Nat->a}(h:Lo z i f=y₀)(b:y₀≠z):∃ n,i=.ofNat n/\f n=y₀:=by
 induction i using afF with
 |ofNat n=>exact⟨n,rfl,h⟩
 |negSucc n=>exact absurd h.symm b
noncomputable def XD:Ext:=λn c f e w k=>aN none (vg 911 f) (gf none e λa r=>jg none a λi=>gf none r λb r=>dU none b λd=>iS none r λg=>Lo none d λd=>
 aN none (and (and (aeZ (nat_lit 16) (afk n)) (or (aew d (nat_lit 1)) (aew d (nat_lit 2)))) (and (afu i w.n) (not (cM i w.mark)))) (aD none (w.st.get i) λo=>sF none o λc=>aD none (Ln g) λp=>some (gO (bE p.1 p.2 d) λx=>k (dz x) w)))
theorem aa4:xe (ba prog w sl tok bl dm cond src os) XD:=by
 intro n Q S c A i j f T V k y h l s W N E R X Z vals m o hp qa u;refine ae (aS h aO) ?_;clear h;intro v h;have e:=G2 v;subst e;refine be (g9 h aO) ?_;clear h;intro a0 r0 a h;subst a;refine Y (i3 h aO) ?_;clear h;intro qb a h;subst a;refine be (g9 h aO) ?_;clear h;intro a1 r1 a h;subst a;refine Y (jU h aO) ?_;clear h;intro d' a h;subst a;refine Y (jc h aO) ?_;clear h;intro td a h;subst a;refine Y (T3 h aO) ?_;clear h;intro d a h;subst a;refine ae (aS h aO) ?_;clear h;intro b h;simp only[afd,afT,aeT]at b;refine bU b ?_;clear b;intro a z B;obtain⟨C,D⟩:=a;refine Y (aR h aO) ?_;clear h;intro qc F h;refine Y (vv h aO) ?_;clear h;intro k' a h;subst a;refine Y (aR h aO) ?_;clear h;intro p G h;obtain⟨r,t⟩:=p;have a:=aej h;clear h;subst y;have e:=T2 G;subst e;have H:=Fq l rfl;have I:xf r t d=.ok .none:=by
  rcases D with q|q
  ·rw[aem q];exact XC r t
  ·rw[aem q];exact XB r t
 exact VT mM mi i j (aer C) R F (aer z) (iy B) I m o λx L qd s' N' M g P=>u _ _ _ _ _ _ (H x L) M g P
set_option backward.match.sparseCases false
end
noncomputable def aa5(X:Ext)(n:Nat)(a:Call):Call:=λf b c k=>match X n a f b c k with
 |some y=>y
 |none=>eP cR cU cQ a f b c k
noncomputable def qZ (X:Ext) (n:Nat):Call:=af6 (λa a a a=>.no) (λn b=>aa5 X n b) n
theorem T4{W:Wd}(HT:mz W cR cU) (v:og W cQ){X:Ext}(w:xe W X):∀ n,dw W n (qZ X n):=by
 intro n;induction n with
 |zero=>exact λc A e g f a b k y h d=>bO h d
 |succ n j=>
  intro c A e g f a b k y h d s l N E R m o p q r t Q u;have i:(match X n (qZ X n) f a b k with
   |some y=>y
   |none=>eP cR cU cQ (qZ X n) f a b k)=y:=h
  split at i
  ·rename_i z x;subst i;exact w n _ j c A e g f a b k _ x d s l N E R m o p q r t Q u
  ·exact pY HT v j c A e g f a b k y i d s l N E R m o p q r t Q u
noncomputable def S3 (k:Call):Sc:=(bX (bP false (.one 1) true [(3,0),(4,2)] (iP (az k 884 (bg (aA 0) (bg (cC (.int 3)) aI)))) bo (az k 911 (bg (aA 3) (bg (cC (.int 2)) (bg (aA 4) aI))))) (J 1) (cC (.str dI)))
noncomputable def S4 (k:Call):Sc:=(bX (bP false (.one 1) true [(3,0)] (iP (cC (.int 2))) bo (c6 .Eq (az k 884 (bg (aA 3) (bg (cC (.int 2)) aI))) (cC (.int 0)))) (J 1) (cC (.str fg)))
noncomputable def S5 (k:Call):Sc:=(bX (bP false (.one 1) true [(3,0),(4,2)] (iP (az k 884 (bg (aA 0) (bg (cC (.int 3)) aI)))) bo (az k 911 (bg (aA 3) (bg (cC (.int 2)) (bg (aA 4) aI))))) (J 1) (cC (.str fx)))
noncomputable def S6 (k:Call):Sc:=(bX (c6 .Eq (az k 884 (bg (aA 0) (bg (cC (.int 2)) aI))) (cC (.int 0))) (J 1) (cC (.str o7)))
noncomputable def S7 (k:Call):Sc:=(bX (az k 911 (bg (aA 0) (bg (cC (.int 1)) (bg (aA 2) aI)))) (J 1) (cC (.str dx)))
noncomputable def S8 (k:Call):Sc:=(bX (az k 911 (bg (aA 0) (bg (cC (.int 1)) (bg (aY (bg (ai aI) (bg (cC .none) aI))) aI)))) (J 1) (cC (.str dX)))
noncomputable def S9 (k:Call):Sc:=(aB (au .Eq (az k 884 (bg (aA 0) (bg (cC (.int 3)) aI))) (cC (.int 0))) (eQ (bX (aY (bg (ai (bg (cC (.str s0)) (bg (cC (.int 0)) (bg (cC .none) (bg (cC (.bool true)) (bg (az k 904 (bg (aY (bg (cC (.str dY)) aI)) aI)) aI)))))) (bg (ai (bg (cC (.str s0)) (bg (cC (.str gw)) (bg (cC (.bool true)) (bg (ai (bg (cC (.str il)) (bg (cC (.str dY)) aI))) aI))))) aI))) (J 1) (cC (.str dX))) aF) aF)
noncomputable def OH (k:Call):Sc:=(bX (az k 891 (bg (aA 0) (bg (aY (bg (cC (.str ki)) (bg (cC (.str s0)) (bg (cC (.str s8)) (bg (cC (.str s0)) aI))))) aI))) (J 1) (cC (.str eS)))
noncomputable def OJ (k:Call):Sc:=(bX (c6 .Eq (az k 884 (bg (aA 0) (bg (cC (.int 2)) aI))) (cC (.int 0))) (J 1) (cC (.str hZ)))
noncomputable def S12:Sc:=(aG (J 1))
noncomputable def DG(k:Call):Sc:=eQ S12 aF
noncomputable def DH (k:Call):Sc:=eQ (OJ k) (DG k)
noncomputable def DI (k:Call):Sc:=eQ (OH k) (DH k)
noncomputable def U9 (k:Call):Sc:=eQ (S9 k) (DI k)
noncomputable def U8 (k:Call):Sc:=eQ (S8 k) (U9 k)
noncomputable def U7 (k:Call):Sc:=eQ (S7 k) (U8 k)
noncomputable def U6 (k:Call):Sc:=eQ (S6 k) (U7 k)
noncomputable def U5 (k:Call):Sc:=eQ (S5 k) (U6 k)
noncomputable def U4 (k:Call):Sc:=eQ (S4 k) (U5 k)
noncomputable def U3 (k:Call):Sc:=eQ (S3 k) (U4 k)
noncomputable def kB:LS:=((((⟨[],[],lK,0,0,[]⟩:LS).push (.tab 813 xS)).push (.tab 146 s9)).push (.tab 392 yN)).push (.tab 302 yL)
noncomputable def ia:LS:=⟨[(1,.ref 4)],[],Tr.set (.src 0) 10 kB.st 4,5,0,[]⟩
noncomputable def pI (a b:AO):Tr:=Tr.set b 10 (Tr.set (.cell (some (.ref 4))) 10 (Tr.set a 10 ia.st 5) 6) 7
noncomputable def σF (a:O) (b:List (Str×O)):LS:=⟨[(1,.ref 7)],[(2,5),(0,6)],pI (.cell (some a)) (.dict b),8,0,[]⟩
noncomputable def kF:Call:=qZ XD 19
noncomputable def cZ (K:Kv):Kv:=λv a=>K v (back ia a)
noncomputable def ef (K:Kv):LS->Rs:=λa=>K .none (back ia a)
noncomputable def OL (r t:Bool)(l:List (Str×O)):List (Str×O):=(gS,nh r)::(cO,tA t)::l
noncomputable def bK (r t:Bool) (l:List (Str×O)):LS:=σF (ka r t) (OL r t l)
theorem d12 (K:Kv):qZ XD 20 (.glob 916) [.ref 4] ia K=join (join (U3 kF (bK true true []) (ef K) (cZ K)) (U3 kF (bK true false []) (ef K) (cZ K))) (join (U3 kF (bK false true []) (ef K) (cZ K)) (U3 kF (bK false false []) (ef K) (cZ K))):=by kernel_rfl
noncomputable def dc (l:List Fm):O:=.hl (l.map dz)
theorem d3 (r t:Bool) (kn:LS->Rs) (kr:Kv):S3 kF (bK r t []) kn kr=join (jt (gO (bE r t 2) λx=>gO (bE r t 2) λy=>gm (kn (bK r t [(dI,dc [x,y])])))) (join (jt (gO (bE r t 2) λx=>gm (kn (bK r t [(dI,dc [x])])))) (jt (gm (kn (bK r t [(dI,dc [])]))))):=by induction r using aen<;>induction t using aen<;>kernel_rfl
theorem d4 (r t:Bool) (a:O) (kn:LS->Rs) (kr:Kv):S4 kF (bK r t [(dI,a)]) kn kr=jt (join (join (gm (kn (bK r t [(dI,a),(fg,.hl [.bool false,.bool false])]))) (gm (kn (bK r t [(dI,a),(fg,.hl [.bool false,.bool true])])))) (join (gm (kn (bK r t [(dI,a),(fg,.hl [.bool true,.bool false])]))) (gm (kn (bK r t [(dI,a),(fg,.hl [.bool true,.bool true])]))))):=by induction r using aen<;>induction t using aen<;>kernel_rfl
theorem d5 (r t:Bool) (a b:O) (kn:LS->Rs) (kr:Kv):S5 kF (bK r t [(dI,a),(fg,b)]) kn kr=join (jt (gO (bE r t 2) λx=>gO (bE r t 2) λy=>gm (kn (bK r t [(dI,a),(fg,b),(fx,dc [x,y])])))) (join (jt (gO (bE r t 2) λx=>gm (kn (bK r t [(dI,a),(fg,b),(fx,dc [x])])))) (jt (gm (kn (bK r t [(dI,a),(fg,b),(fx,dc [])]))))):=by induction r using aen<;>induction t using aen<;>kernel_rfl
theorem d6 (r t:Bool) (a b c:O) (kn:LS->Rs) (kr:Kv):S6 kF (bK r t [(dI,a),(fg,b),(fx,c)]) kn kr=join (kn (bK r t [(dI,a),(fg,b),(fx,c),(o7,.bool false)])) (kn (bK r t [(dI,a),(fg,b),(fx,c),(o7,.bool true)])):=by induction r using aen<;>induction t using aen<;>kernel_rfl
noncomputable def l6 (a b c d:O)(l:List (Str×O)):List (Str×O):=(dI,a)::(fg,b)::(fx,c)::(o7,d)::l
theorem d7 (r t:Bool) (a b c d:O) (kn:LS->Rs) (kr:Kv):S7 kF (bK r t (l6 a b c d [])) kn kr=gO (bE r t 1) λx=>kn (bK r t (l6 a b c d [(dx,dz x)])):=by induction r using aen<;>induction t using aen<;>kernel_rfl
theorem d8 (r t:Bool) (a b c d e:O) (kn:LS->Rs) (kr:Kv):S8 kF (bK r t (l6 a b c d [(dx,e)])) kn kr=gO (bE false false 1) λx=>kn (bK r t (l6 a b c d [(dx,e),(dX,dz x)])):=by induction r using aen<;>induction t using aen<;>kernel_rfl
noncomputable def aa6:O:=.hl [fO.w,fO.t]
theorem d9 (r t:Bool) (a b c d e f:O) (kn:LS->Rs) (kr:Kv):S9 kF (bK r t (l6 a b c d [(dx,e),(dX,f)])) kn kr=join (kn (bK r t (l6 a b c d [(dx,e),(dX,f)]))) (join (kn (bK r t (l6 a b c d [(dx,e),(dX,f)]))) (jt (gm (kn (bK r t (l6 a b c d [(dx,e),(dX,aa6)])))))):=by induction r using aen<;>induction t using aen<;>kernel_rfl
theorem d10 (r t:Bool) (a b c d e f:O) (kn:LS->Rs) (kr:Kv):OH kF (bK r t (l6 a b c d [(dx,e),(dX,f)])) kn kr=join (kn (bK r t (l6 a b c d [(dx,e),(dX,f),(eS,.str (iY 1))]))) (join (kn (bK r t (l6 a b c d [(dx,e),(dX,f),(eS,.str (iY 2))]))) (join (kn (bK r t (l6 a b c d [(dx,e),(dX,f),(eS,.str (iY 1))]))) (kn (bK r t (l6 a b c d [(dx,e),(dX,f),(eS,.str (iY 0))]))))):=by induction r using aen<;>induction t using aen<;>kernel_rfl
theorem d11 (r t:Bool) (a b c d e f g:O) (kn:LS->Rs) (kr:Kv):OJ kF (bK r t (l6 a b c d [(dx,e),(dX,f),(eS,g)])) kn kr=join (kn (bK r t (l6 a b c d [(dx,e),(dX,f),(eS,g),(hZ,.bool false)]))) (kn (bK r t (l6 a b c d [(dx,e),(dX,f),(eS,g),(hZ,.bool true)]))):=by induction r using aen<;>induction t using aen<;>kernel_rfl
noncomputable def rX (r t:Bool)(a b c d e f g h:O):List (Str×O):=OL r t (l6 a b c d [(dx,e),(dX,f),(eS,g),(hZ,h)])
noncomputable def OM (r t:Bool) (a b c d e f g h:O):LS:=⟨[(1,.ref 4)],[],pI (.cell (some (ka r t))) (.dict (rX r t a b c d e f g h)),8,0,[]⟩
theorem M6 (r t:Bool) (a b c d e f g h:O) (K:Kv):DG kF (bK r t (l6 a b c d [(dx,e),(dX,f),(eS,g),(hZ,h)])) (ef K) (cZ K)=K (.ref 7) (OM r t a b c d e f g h):=by induction r using aen<;>induction t using aen<;>kernel_rfl
theorem jj(h:a=.ok .none)(h':b=.ok .none):join a b=.ok .none:=by rw[h,h'];exact zA rfl
noncomputable def E0:Rs:=gm (.ok .none)
theorem je(h:a=E0)(h':b=E0):join a b=E0:=by rw[h,h'];exact zA rfl
theorem en(h:a=.ok .none):gm a=E0:=by rw[h];rfl
theorem de(h:a=E0):jt a=.ok .none:=by rw[h];rfl
theorem jF{f:Fm->Rs}:∀ {l:List Fm},l≠[]->(∀ x∈l,f x=E0)->gO l f=E0
 |[],h,c=>absurd rfl h
 |[a],c,h=>h a (.head _)
 |a::b::l,c,h=>je (h a (.head _)) (jF (l:=b::l) (by simp) λx d=>h x (.tail _ d))
theorem mc:bE r t n≠[]:=by
 induction n using aeI<;>exact List.cons_ne_nil _ _
noncomputable def AH (K:Kv):Prop:=∀ (r t:Bool) (a:List Fm) (s1 s2:Bool) (b:List Fm) (lo:Bool) (o c:Fm) (d:Nat) (e:Bool),a.length<=2->(∀ x∈a,x∈bE r t 2)->b.length<=2->(∀ x∈b,x∈bE r t 2)->o∈bE r t 1->c∈gI->d<=2->
 K (.ref 7) (OM r t (dc a) (.hl [.bool s1,.bool s2]) (dc b) (.bool lo) (dz o) (dz c) (.str (iY d)) (.bool e))=.ok .none
section
variable{K:Kv}(h:AH K){r t:Bool}
include h
section
variable{fs:List Fm}(h1:fs.length<=2)(h2:∀ x∈fs,x∈bE r t 2)
include h1 h2
section
variable{s1 s2:Bool}
section
variable{ins:List Fm}(h3:ins.length<=2)(h4:∀ x∈ins,x∈bE r t 2)
include h3 h4
section
variable{lo:Bool}{o:Fm}(h5:o∈bE r t 1)
include h5
section
variable{cn:Fm}(h6:cn∈gI)
include h6
theorem y4 (a:b<=2):DH kF (bK r t (l6 (dc fs) (.hl [.bool s1,.bool s2]) (dc ins) (.bool lo) [(dx,dz o),(dX,dz cn),(eS,.str (iY b))])) (ef K) (cZ K)=.ok .none:=
 (d11 r t _ _ _ _ _ _ _ (λc=>DG kF c (ef K) (cZ K)) (cZ K)).trans (jj ((M6 ..).trans (h _ _ _ _ _ _ _ _ _ _ _ h1 h2 h3 h4 h5 h6 a)) ((M6 ..).trans (h _ _ _ _ _ _ _ _ _ _ _ h1 h2 h3 h4 h5 h6 a)))
theorem DJ:DI kF (bK r t (l6 (dc fs) (.hl [.bool s1,.bool s2]) (dc ins) (.bool lo) [(dx,dz o),(dX,dz cn)])) (ef K) (cZ K)=.ok .none:=
 (d10 r t _ _ _ _ _ _ (λa=>DH kF a (ef K) (cZ K)) (cZ K)).trans (jj (y4 h h1 h2 h3 h4 h5 h6 (by decide)) (jj (y4 h h1 h2 h3 h4 h5 h6 (by decide)) (jj (y4 h h1 h2 h3 h4 h5 h6 (by decide)) (y4 h h1 h2 h3 h4 h5 h6 (by decide)))))
theorem u9:U9 kF (bK r t (l6 (dc fs) (.hl [.bool s1,.bool s2]) (dc ins) (.bool lo) [(dx,dz o),(dX,dz cn)])) (ef K) (cZ K)=.ok .none:=
 (d9 r t _ _ _ _ _ _ (λa=>DI kF a (ef K) (cZ K)) (cZ K)).trans (jj (DJ h h1 h2 h3 h4 h5 h6) (jj (DJ h h1 h2 h3 h4 h5 h6) (de (en (DJ (cn:=fO) h h1 h2 h3 h4 h5 (.head _))))))
end
theorem u8:U8 kF (bK r t (l6 (dc fs) (.hl [.bool s1,.bool s2]) (dc ins) (.bool lo) [(dx,dz o)])) (ef K) (cZ K)=.ok .none:=
 (d8 r t _ _ _ _ _ (λa=>U9 kF a (ef K) (cZ K)) (cZ K)).trans (zB mc λx b=>u9 h h1 h2 h3 h4 h5 (.tail _ b))
end
theorem u7{lo:Bool}:U7 kF (bK r t (l6 (dc fs) (.hl [.bool s1,.bool s2]) (dc ins) (.bool lo) [])) (ef K) (cZ K)=.ok .none:=
 (d7 r t _ _ _ _ (λa=>U8 kF a (ef K) (cZ K)) (cZ K)).trans (zB mc λx b=>u8 h h1 h2 h3 h4 b)
theorem u6:U6 kF (bK r t [(dI,dc fs),(fg,.hl [.bool s1,.bool s2]),(fx,dc ins)]) (ef K) (cZ K)=.ok .none:=
 (d6 r t _ _ _ (λa=>U7 kF a (ef K) (cZ K)) (cZ K)).trans (jj (u7 h h1 h2 h3 h4) (u7 h h1 h2 h3 h4))
end
theorem u5:U5 kF (bK r t [(dI,dc fs),(fg,.hl [.bool s1,.bool s2])]) (ef K) (cZ K)=.ok .none:=
 (d5 r t _ _ (λb=>U6 kF b (ef K) (cZ K)) (cZ K)).trans (jj (de (jF mc λx a=>jF mc λy c=>en (u6 h h1 h2 (ins:=[x,y]) (aeD 2) (by simp [a,c])))) (jj (de (jF mc λx a=>en (u6 h h1 h2 (ins:=[x]) (af7 1) (by simp [a])))) (de (en (u6 h h1 h2 (ins:=[]) (afj 2) (by simp))))))
end
theorem u4:U4 kF (bK r t [(dI,dc fs)]) (ef K) (cZ K)=.ok .none:=
 (d4 r t _ (λa=>U5 kF a (ef K) (cZ K)) (cZ K)).trans (de (je (je (en (u5 h h1 h2)) (en (u5 h h1 h2))) (je (en (u5 h h1 h2)) (en (u5 h h1 h2)))))
end
theorem u3:U3 kF (bK r t []) (ef K) (cZ K)=.ok .none:=
 (d3 r t (λb=>U4 kF b (ef K) (cZ K)) (cZ K)).trans (jj (de (jF mc λx a=>jF mc λy c=>en (u4 h (fs:=[x,y]) (aeD 2) (by simp [a,c])))) (jj (de (jF mc λx a=>en (u4 h (fs:=[x]) (af7 1) (by simp [a])))) (de (en (u4 h (fs:=[]) (afj 2) (by simp))))))
end
theorem draws{K:Kv}(h:AH K):qZ XD 20 (.glob 916) [.ref 4] ia K=.ok .none:=(d12 K).trans (jj (jj (u3 h) (u3 h)) (jj (u3 h) (u3 h)))
section
theorem vJ{P:O->Prop}(c:P .none) (d:∀ b,P (.bool b)) (e:∀ i,P (.int i)) (f:∀ x,P (.str x)) (g:∀ l,mL (bz n) l l=true->P (.tup l)) (j:∀ l,mL (bz n) l l=true->P (.hl l)) (h:bz (n+1) a a=true):P a:=by
 induction a using O.casesOn with
 |none=>exact c
 |bool b=>exact d b
 |int i=>exact e i
 |str x=>exact f x
 |tup l=>exact g l h
 |hl l=>exact j l h
 |_=>exact aX h
theorem wa{α:Type}{f:α->α->Bool}{l:List α}:mL f l l=true->∀ a∈l,f a a=true:=by
 induction l with
 |nil=>exact λc c h=>nomatch h
 |cons b l d=> intro h a g;refine ae (aei.mp (show and (f b b) (mL f l l)=true from h)) ?_;clear h;intro i j;exact (aeA.mp g).elim (λe=>e▸i) (d j a)
theorem sr (h:bz n a a=true):a.sure=true:=by
 induction n using aeI with
 |zero=>exact aX h
 |succ n=>exact vJ (P:=λa=>a.sure=true) rfl (λb=>rfl) (λb=>rfl) (λb=>rfl) (λb b=>rfl) (λb b=>rfl) h
noncomputable def ON(a:O):Bool:=afM false a λb=>true
noncomputable def Bg (l:List O):Bool:=aeL true (λa c b=>and (ON a) b) l
theorem T5:Bg l=true->∃ b:List Str,l=b.map .str:=by
 induction l with
 |nil=>exact λg=>⟨[],rfl⟩
 |cons a l d=>
  intro h;refine ae (aei.mp (show and (ON a) (Bg l)=true from h)) λe f=>?_
  refine Y (gD e nofun) ?_;clear e;intro x c g;subst c;refine aL (d f) ?_;clear d f;intro b c;subst c;exact⟨x::b,rfl⟩
noncomputable def wB (a:O):Bool:=cF false a λl=>gf false l λb r=>gf false r λc r=>dU false c λi=>and (decide (i=0)) b.sure
theorem aa7 (h:wB a=true):∃ b r,a=.tup (b::.int 0::r)/\b.sure=true:=by
 refine Y (dP h nofun) ?_;clear h;intro l d h;subst d;refine be (g9 h nofun) ?_;clear h;intro b r d h;subst d;refine be (g9 h nofun) ?_;clear h;intro c r d h;subst d;refine Y (jU h nofun) ?_;clear h;intro i d h;subst d;refine ae (aei.mp h) ?_;clear h;intro e f;exact (gJ b r (by rw[of_decide_eq_true e]) f)
noncomputable def y5 (x:Fm) (f:Nat):O:=ais (motive:=λa=>O) f x.w λf=>ais (motive:=λa=>O) f x.t λf=>ais (motive:=λa=>O) f (.hl x.g) λf=>ais (motive:=λa=>O) f x.e λa=>x.p
noncomputable def kC (x:Fm):Bool:=and ([0,1,2,3,4].all λf=>bz 20 (y5 x f) (y5 x f)) (and (Bg x.g) (wB x.w))
theorem Lp:∀ r t,fj (bE r t 2) kC=true:=by intro r t;induction r using aen<;>induction t using aen<;>kernel_rfl
theorem Lq:fj gI kC=true:=by kernel_rfl
theorem oj (h:kC x=true) (a:f∈[0,1,2,3,4]):bz 20 (y5 x f) (y5 x f)=true:=aeK.mp (aei.mp h).1 f a
theorem XE{D:O->Option afs}:(∀ a∈l,a.sure=true/\∃ d,D a=some d)->∃ e,dL T D l=some e:=by
 induction l with
 |nil=>exact λn=>⟨[],rfl⟩
 |cons a l f=>
  intro h;refine Lz (h a (.head _)) λg d i=>?_
  refine aL (f λb j=>h b (.tail _ j)) ?_;clear f h;intro e k
  rcases fD a with⟨c,v,rfl⟩|m
  ·exact aX g
  ·exact⟨d::e,by rw[nY m,i,k];rfl⟩
theorem XG{T:KT}{st:Tr}{n:Nat}:∀ {a:O},bz n a a=true->∃ d,DR T st n a d:=by
 induction n with
 |zero=>exact λh=>nomatch h
 |succ n i=>
  intro a h;have c:∀ l,mL (bz n) l l=true->∃ b,dL T (toD T st n) l=some b:=λl h=>XE λa f=>⟨sr (wa h a f),i (wa h a f)⟩
  exact vJ (P:=λa=>∃ d,DR T st (n+1) a d) ⟨_,rfl⟩ (λg=>⟨_,rfl⟩) (λg=>⟨_,rfl⟩) (λg=>⟨_,rfl⟩) (λl h=>(c l h).elim λb e=>⟨_,DR.Gv rfl e⟩) (λl h=>(c l h).elim λb e=>⟨_,DR.Ap rfl e⟩) h
theorem QD:(∀ a∈l,below m a=true)->belows m l=true:=by
 induction l with
 |nil=>exact λe=>rfl
 |cons a l c=>exact λh=>aei.mpr ⟨h a (.head _),c λb d=>h b (.tail _ d)⟩
theorem RK:∀ {a:O},bz n a a=true->below m a=true:=by
 induction n with
 |zero=>exact λh=>nomatch h
 |succ n d=>
  intro a h;have b:∀ l,mL (bz n) l l=true->belows m l=true:=λl h=>QD λa e=>d (wa h a e)
  exact vJ (P:=λa=>below m a=true) rfl (λc=>rfl) (λc=>rfl) (λc=>rfl) (λl h=>pS.trans (b l h)) (λl h=>zF.trans (b l h)) h
variable{prog:ae9}{w:afq}{sl:KX}{tok:Nat->Fm}{bl:Nat->Bool}{dm:Dm}{cond:Nat->Bool}{src:List (aez×List ael)}{os:afw}
theorem XH (r t:Bool):([0,1,2,3,4,5].all λk=>[0,1,2].all λa=>bz 20 (g8 r t k a) (g8 r t k a))=true:=by induction r using aen<;>induction t using aen<;>kernel_rfl
theorem VU (r t:Bool) (k a:Nat):g8 r t k a=g8 r t (min k 5) (min a 2):=by
 have w:∀ k,g8 r t k a=g8 r t k (min a 2):=λk=>by match a with
  |0=>rfl
  |1=>rfl
  |2=>rfl
  |n+3=>rw[Nat.min_eq_right (agC 2 (n+1))];exact match k with
   |0=>rfl
   |1=>rfl
   |2=>rfl
   |3=>rfl
   |4=>rfl
   |b+5=>rfl
 rw[w k];match k with
 |0=>rfl
 |1=>rfl
 |2=>rfl
 |3=>rfl
 |4=>rfl
 |n+5=>rw[Nat.min_eq_right (agC 5 n)];rfl
theorem le5 (h:k<=5):k∈[0,1,2,3,4,5]:=agO.mpr (ahw h)
theorem le2 (h:k<=2):k∈[0,1,2]:=agO.mpr (ahw h)
theorem Lr (r t:Bool) (k a:Nat):bz 20 (g8 r t k a) (g8 r t k a)=true:=by
 rw[VU];exact aeK.mp (aeK.mp (XH r t) _ (le5 (Nat.min_le_right k 5))) _ (le2 (Nat.min_le_right a 2))
theorem Co (H:gp r t tok) (k:Nat):kC (tok k)=true:=by
 by_cases h:k=9
 ·rw[h];exact dE Lq _ H.c
 ·exact dE (Lp r t) _ (H.all k h)
theorem Ls (H:gp r t tok) (f k:Nat):bz 20 (yW tok bl dm f k) (yW tok bl dm f k)=true:=by
 have w:=Co H k;unfold yW;split
 ·exact oj w (.head _)
 ·exact oj w (.tail _ (.head _))
 ·exact oj w (.tail _ (.tail _ (.head _)))
 ·exact oj w (.tail _ (.tail _ (.tail _ (.head _))))
 ·exact oj w (.tail _ (.tail _ (.tail _ (.tail _ (.head _)))))
 ·exact gG.mpr rfl
 ·exact beq_self_eq_true _
 ·unfold yV;split
  ·exact beq_self_eq_true _
  ·exact Lr _ _ _ _
 ·rfl
theorem M7{r t:Bool}(H:gp r t tok):Cw (ba prog w sl tok bl dm cond src os):=
 gok (λf k st=>XG (Ls H f k)) (λn=>⟨bl n,rfl⟩) (λf k n=>RK (Ls H f k)) (λk=>aa7 (aei.mp (aei.mp (Co H k)).2).2) (λk=>(T5 (aei.mp (aei.mp (Co H k)).2).1).imp λa e=>congrArg O.hl e) (λk=>⟨_,rfl⟩)
end
section
noncomputable def Cx.to(c:Cx W)(a:Wd):Cx a:=⟨c.A₀,c.base,c.outer,c.h₀,c.L,c.bF,c.env,c.comp,c.ax⟩
theorem VR.swap (m:d.K=T.K):∀ {v:ael}{a:O},bz n a a=true->VR T α N v a->VR d α N v a:=by
 induction n with
 |zero=>exact λh=>nomatch h
 |succ n o=>
  intro v a h;have j:∀ {g:List ael}{l:List O},mL (bz n) l l=true->ah T α N g l->ah d α N g l:=λh p=>ah.ind (P:=λg l=>(∀ a∈l,bz n a a=true)->ah d α N g l) (λc=>.nil) (λq c r h=>.cons (o (h _ (.head _)) q) (r λa s=>h a (.tail _ s)))
   (λc c c c h=>absurd (sr (h _ (.head _))) aeY) (λc c c h=>absurd (sr (h _ (.head _))) aeY) p (wa h)
  exact vJ (P:=λa=>VR T α N v a->VR d α N v a) (VR.V3 (M:=λv c=>VR d α N v .none) .none) (λb=>VR.V4 (M:=λv c=>VR d α N v (.bool b)) (.bool b)) (λi=>VR.X1 (M:=λv c=>VR d α N v (.int i)) (.int i)) (λx=>VR.X2 (M:=λv c=>VR d α N v (.str x)) λt u=>.str t u)
   (λl hl=>VR.X3 (M:=λv c=>VR d α N v (.tup l)) (λe f k w y=>.tup e f k w (j hl y)) (λe f=>.tupK (m▸e) (j hl f))) (λl hl=>VR.xi (M:=λv c=>VR d α N v (.hl l)) λe f k=>.hl e f (j hl k)) h
theorem Eg:∀ x,x∈bE r t n->x∈bE r t (n+1):=by
 induction n with
 |zero=>exact λx a=>aeo _ a
 |succ n b=>
  intro x a;rcases aeQ.mp (show x∈fBase t++(bE r t n).flatMap (Lk r) from a) with h|h
  ·exact aeo _ h
  ·refine Y (List.mem_flatMap.mp h) ?_;clear h;intro y c d;exact aeu _ (List.mem_flatMap.mpr (ay y (b y c) d))
theorem Cp (a:x∈bE r t 2):kC x=true:=dE (Lp r t) x a
theorem adM (a:x∈bE r t 1):kC x=true:=Cp (Eg _ a)
theorem aa8(h:x∈gI):kC x=true:=dE Lq x h
noncomputable def tokOf(fs ins:List Fm)(o cn:Fm)(k:Nat):Fm:=match k with
 |0=>(fs[0]?).getD fU
 |1=>(fs[1]?).getD fU
 |2=>(ins[0]?).getD fU
 |3=>(ins[1]?).getD fU
 |4=>o
 |9=>cn
 |_=>fU
noncomputable def adN(s1 s2:Bool)(k:Nat):Bool:=match k with
 |0=>s1
 |_=>s2
theorem Bh:fU∈bE r t n:=by
 induction n using aeI with
 |zero=>exact .head _
 |succ n=>exact aeo _ (.head _)
theorem getD_in{l:List Fm}{r t:Bool}(h:∀ x∈l,x∈bE r t 2)(i:Nat):(l[i]?).getD fU∈bE r t 2:=by
 induction q:l[i]? using aeB with
 |none=>exact Bh
 |some x=>exact h x (aeV q)
theorem T6{r t:Bool}{o cn:Fm}(a:∀ x∈fs,x∈bE r t 2)(b:∀ x∈ins,x∈bE r t 2)(c:o∈bE r t 1)(d:cn∈gI):gp r t (tokOf fs ins o cn):=by
 refine⟨λk e=>?_,d⟩
 unfold tokOf;split
 ·exact getD_in a _
 ·exact getD_in a _
 ·exact getD_in b _
 ·exact getD_in b _
 ·exact Eg _ c
 ·exact absurd rfl e
 ·exact Bh
noncomputable def Cq:Nat->Fm:=λk=>match k with
 |9=>fO
 |_=>fU
theorem VV:gp false false Cq:=by
 refine⟨λk a=>?_,.head _⟩
 unfold Cq;split
 ·exact absurd rfl a
 ·exact Bh
noncomputable def iZ(k:Nat):O:=.hl [.ty 0 k,.ty 1 k]
noncomputable def rY (a:List (Str×O)):Tr:=Tr.set (.dict a) 10 (Tr.set .any 10 (Tr.set .any 10 ia.st 5) 6) 7
noncomputable def eH (loc:List (Nat×O))(a:List (Str×O)):LS:=⟨loc,[],rY a,8,0,[]⟩
noncomputable def lG:List (Nat×O):=[(2,.ref 7),(1,.ref 4)]
noncomputable def M8 (r t:Bool) (a:List (Str×O)):LS:=⟨lG,[],pI (.cell (some (ka r t))) (.dict a),8,0,[]⟩
variable{prog:ae9}{w:afq}{sl:KX}{tok Cr:Nat->Fm}{bl OO:Nat->Bool}{dm OP:Dm}{cond Lu:Nat->Bool}{src:List (aez×List ael)}{os:afw}
theorem lr.to(T:lr W p a b c h)(e:d.prog.given.tree=W.prog.given.tree):lr d p a b c h:=⟨T.toTopRead,T.seer,e.trans T.tree⟩
theorem ak.toT{c:Cx (ba prog w sl tok bl dm cond src os)}(h:ak c){r t:Bool}(H:gp r t Cr):ak (c.to (ba prog w sl Cr OO OP Lu src os)):=
 ⟨M7 H,h.aZ,h.lim,h.below,h.kind,h.kZ,h.frame,h.iE,h.qC,h.locs,((gH (h.top) λp l a b T=>(nV p l a b (T.to rfl)))),h.cW,h.k7,((gH (h.ls) λp l a b T=>(nV p l a b (T.to rfl)))),h.mU,h.uz,h.cin,h.nq⟩
theorem aP.toT (h:aP c d A):aP (c.to (ba prog w sl Cr OO OP Lu src os)) d A:=⟨h.frames,h.depth,h.units,h.handled⟩
theorem aa9 (h:kC x=true):bz 20 x.w x.w=true/\bz 20 x.t x.t=true:=⟨oj h (f:=0) (.head _),oj h (f:=1) (.tail _ (.head _))⟩
theorem sE (b:a.K=T.K) (c:kC x=true) (i:a.θ 0 k=x.w) (j:a.θ 1 k=x.t) (h:VR T α N v (dz x)):VR a α N v (iZ k):=by
 refine ae (aa9 c) ?_;clear c;intro w d;refine VR.xi (M:=λv y=>VR a α N v (iZ k)) (λl m f=>?_) h
 refine aH (f.ck (sr w)) ?_;clear f;intro n z e o g;refine aH (g.ck (sr d)) ?_;clear g;intro p A q r s;have t:VR a α N n (a.θ 0 k):=i▸o.swap b w;have u:VR a α N p (a.θ 1 k):=j▸r.swap b d;exact .hl l m (by rw[e,q,s.nil_inv];exact .cons (.ty t) (.cons (.ty u) .nil))
end
structure Kn where
 cq:Nat->Option Bool
 tq:Nat->Nat->Option O
noncomputable def fX (a:O):O:=ew a (λb v=>v) a
noncomputable def exQ (b:O) (l:List O) (o:Option Bool):List O:=ae2 (b::l) (λq=>aex l (fX b::l) q) o
noncomputable def OQ (o:Option Bool) (b:O) (l:List O) (s:Bool):List O:=aex (b::l) (exQ b l o) s
noncomputable def OS (K:Kn) (a b:O) (l:List O):List O:=ew a (λc v=>OQ (K.cq c) b l v.sure) (b::l)
noncomputable def nI (K:Kn) (f k:Nat):O:=ae2 (.ty f k) (λx=>x) (K.tq f k)
noncomputable def ex (K:Kn):O->O:=O.rec (motive_1:=λd=>O) (motive_2:=λd=>List O)
 .none .bool .int .str (λd l=>.tup l) (λd l=>.hl l) (λc d b=>.may c b) .ref .glob (nI K) (λf d b=>.cu f b) .bY .bR .fk
 [] (λa d b l=>OS K a b l)
noncomputable def dh (K:Kn) (l:List O):List O:=O.rec_1 (motive_1:=λd=>O) (motive_2:=λd=>List O)
 .none .bool .int .str (λd l=>.tup l) (λd l=>.hl l) (λc d b=>.may c b) .ref .glob (nI K) (λf d b=>.cu f b) .bY .bR .fk
 [] (λa d b l=>OS K a b l) l
theorem T7(h:a.sure=true):sH a:=by
 rcases fD a with⟨c,v,rfl⟩|b
 ·exact aX h
 ·exact b
theorem T8 (h:sH a):a.sure=true:=(show a.sure=ew a (λb b=>false) true by induction a using O.casesOn<;>rfl).trans (h _ _)
theorem vK{K:Kn}{l:List O}(h:a.sure=true):dh K (a::l)=ex K a::dh K l:=T7 h _ _
theorem Ai{K:Kn}{l:List O}:dh K (.may c a::l)=OQ (K.cq c) (.may c (ex K a)) (dh K l) a.sure:=rfl
structure ez(T:KT)(K:Kn):Prop where
 c:∀ i b,K.cq i=some b->T.cond i=b
 t:∀ f k x,K.tq f k=some x->T.θ f k=x
 s:∀ f k x,K.tq f k=some x->x.sure=true
theorem AI (K:Kn)(f k:Nat):nI K f k=.ty f k\/∃ x,K.tq f k=some x/\nI K f k=x:=by
 unfold nI;induction K.tq f k using aeB with
 |none=>exact .inl rfl
 |some x=>exact .inr (ay x rfl rfl)
theorem Aj{T:KT}{K:Kn}(H:ez T K){a:O}(h:a.sure=true):(ex K a).sure=true:=by
 induction a using O.casesOn with
 |ty f k=>
  show(nI K f k).sure=true;rcases AI K f k with e|⟨x,e,b⟩
  ·rw[e];rfl
  ·rw[b];exact H.s f k x e
 |may c d=>exact aX h
 |_=>rfl
theorem G4{T:KT}{K:Kn}(H:ez T K){c:Nat}{v av vs a}(e:T.cond c=true) (d:av.sure=true) (q:VR T α N v (Eng.ex K av)) (r:ah T α N vs (dh K a)):ah T α N (v::vs) (dh K (.may c av::a)):=by
 rw[Ai,d];induction f:K.cq c using aeB with
 |none=>exact .yes e q r
 |some b=> obtain rfl:true=b:=e.symm.trans (H.c _ _ f);exact .cons q r
theorem Lv{T:KT}{K:Kn}(H:ez T K){c:Nat}{av vs a}(e:T.cond c=false)(r:ah T α N vs (dh K a)):ah T α N vs (dh K (.may c av::a)):=by
 rw[Ai];induction av.sure using aen with
 |false=>exact .no e r
 |true=>induction d:K.cq c using aeB with
  |none=>exact .no e r
  |some b=> obtain rfl:false=b:=e.symm.trans (H.c _ _ d);exact r
theorem XI{T:KT}{K:Kn}(H:ez T K){α N f k v}(q:VR T α N v (T.θ f k)):VR T α N v (nI K f k):=by
 rcases AI K f k with e|⟨x,e,a⟩
 ·rw[e];exact .ty q
 ·rw[a,←H.t f k x e];exact q
theorem G5{T:KT}{K:Kn}(H:ez T K){α N f k v}(q:VR T α N v (nI K f k)):VR T α N v (.ty f k):=by
 rcases AI K f k with e|⟨x,e,a⟩
 ·rw[e]at q;exact q
 ·rw[a,←H.t f k x e]at q;exact .ty q
theorem VR.ex{T:KT}{K:Kn}(H:ez T K){α N v a}(h:VR T α N v a):VR T α N v (Eng.ex K a):=
 VR.rec (motive_1:=λv a b=>VR T α N v (Eng.ex K a)) (motive_2:=λv a b=>ah T α N v (dh K a)) .none .bool .int .str (λc d g i b r=>.tup c d g i r) (λc b r=>.tupK c r) (λc d b r=>.hl c d r) .ref .glob (λq b=>XI H q) (λc d b r=>.cu c d r) .bY .bR .fk .nil (λq b f r=>by rw[vK (i7 q)];exact .cons f r) (λe q b f r=>G4 H e (i7 q) f r) (λe b r=>Lv H e r) h
theorem ah.ex{T:KT}{K:Kn}(H:ez T K){α N v a}(h:ah T α N v a):ah T α N v (dh K a):=
 ah.ind (P:=λv a=>ah T α N v (dh K a)) .nil (λq b r=>by rw[vK (i7 q)];exact .cons (VR.ex H q) r) (λe q b r=>G4 H e (i7 q) (VR.ex H q) r) (λe b r=>Lv H e r) h
theorem Gi{T:KT}{K:Kn}(H:ez T K){α N a l}(f:∀ v,VR T α N v (Eng.ex K (fX a))->VR T α N v (fX a)) (d:∀ vs,ah T α N vs (dh K l)->ah T α N vs l) (vs) (h:ah T α N vs (dh K (a::l))):ah T α N vs (a::l):=by
 rcases fD a with⟨c,x,rfl⟩|m
 ·rw[Ai]at h;have g:ah T α N vs (.may c (Eng.ex K x)::dh K l)->ah T α N vs (.may c x::l):=λo=>by
   rcases o.p9 with⟨e,v,n,rfl,q,r⟩|⟨e,r⟩
   ·exact .yes e (f v q) (d _ r)
   ·exact .no e (d _ r)
  induction b:x.sure using aen with
  |false=>rw[b]at h;exact g h
  |true=>
   rw[b]at h;induction e:K.cq c using aeB with
   |none=>rw[e]at h;exact g h
   |some q=>
    rw[e]at h;induction q using aen with
    |false=>exact .no (H.c _ _ e) (d _ h)
    |true=>
     refine aH (ah.ck (a:=Eng.ex K x) (l:=dh K l) h (Aj H b)) ?_;clear g;intro v n i j k;subst i;exact .yes (H.c _ _ e) (f v j) (d _ k)
 ·have b:=T8 m;rw[vK b]at h;refine aH (h.ck (Aj H b)) ?_;clear h H b;intro v n i j k;subst i;have q:=f v;rw[show fX a=a from m _ _]at q;exact .cons (q j) (d _ k)
theorem G6{T:KT}{K:Kn}(H:ez T K){α N}:(∀ (a:O) v,VR T α N v (Eng.ex K (fX a))->VR T α N v (fX a))/\∀ (l:List O) vs,ah T α N vs (dh K l)->ah T α N vs l:=by
 have s:∀ (l:List O),(∀ vs,ah T α N vs (dh K l)->ah T α N vs l)->∀ v,VR T α N v (.tup (dh K l))->VR T α N v (.tup l):=λl e v h=>by
  rcases h.inv with⟨a,o,vs,n,rfl,g,j,w,y,r⟩|⟨a,vs,n,A,rfl,g,r⟩
  ·exact .tup g j w y (e _ r)
  ·exact .tupK g (e _ r)
 have i:∀ (l:List O),(∀ vs,ah T α N vs (dh K l)->ah T α N vs l)->∀ v,VR T α N v (.hl (dh K l))->VR T α N v (.hl l):=λl e v h=>by
  refine gC h.inv ?_;intro a vs n k g j r;subst k;exact .hl g j (e _ r)
 have m:∀ (a:O),(∀ v,VR T α N v (Eng.ex K (fX a))->VR T α N v (fX a))->∀ v,VR T α N v (Eng.ex K a)->VR T α N v a:=λa e v h=>by
  rcases fD a with⟨c,x,rfl⟩|z
  ·exact ((show VR T α N v (.may c (Eng.ex K x)) from h).inv:False).elim
  ·have q:=e v;rw[show fX a=a from z _ _]at q;exact q h
 have t:∀ f (a:O),(∀ v,VR T α N v (Eng.ex K (fX a))->VR T α N v (fX a))->∀ v,VR T α N v (.cu f (Eng.ex K a))->VR T α N v (.cu f a):=λf a e v h=>by
  refine eJ h.inv ?_;intro b u k g j r;subst k;exact .cu g j (m a e _ r)
 exact⟨O.rec (motive_1:=λa=>∀ v,VR T α N v (Eng.ex K (fX a))->VR T α N v (fX a)) (motive_2:=λl=>∀ vs,ah T α N vs (dh K l)->ah T α N vs l) (λd h=>h) (λd d h=>h) (λd d h=>h) (λd d h=>h) s i (λd a e=>m a e) (λd d h=>h) (λd d h=>h) (λd d d h=>G5 H h) t (λd d d h=>h) (λd h=>h) (λd d h=>h) (λd h=>h) (λd d p i=>Gi H p i),
  O.rec_1 (motive_1:=λa=>∀ v,VR T α N v (Eng.ex K (fX a))->VR T α N v (fX a)) (motive_2:=λl=>∀ vs,ah T α N vs (dh K l)->ah T α N vs l) (λd h=>h) (λd d h=>h) (λd d h=>h) (λd d h=>h) s i (λd a e=>m a e) (λd d h=>h) (λd d h=>h) (λd d d h=>G5 H h) t (λd d d h=>h) (λd h=>h) (λd d h=>h) (λd h=>h) (λd d p i=>Gi H p i)⟩
theorem ah.un{T:KT}{K:Kn}(H:ez T K){α N}(l:List O){v}(h:ah T α N v (dh K l)):ah T α N v l:=(G6 H).2 l v h
theorem VR.un{T:KT}{K:Kn}(H:ez T K){α N}(a:O){v}(h:VR T α N v (Eng.ex K a)):VR T α N v a:=by
 rcases fD a with⟨c,x,rfl⟩|b
 ·exact ((show VR T α N v (.may c (Eng.ex K x)) from h).inv:False).elim
 ·have q:=(G6 H (α:=α) (N:=N)).1 a v;rw[show fX a=a from b _ _]at q;exact q h
noncomputable def jQ (K:Kn) (l:List (Str×O)):List (Str×O):=aeL [] (λe b a=>(e.1,ex K e.2)::a) l
noncomputable def l5 (K:Kn) (o:AO):AO:=AO.casesOn (motive:=λb=>AO) o (λl=>.list (dh K l)) (λl=>.dict (jQ K l)) (λC l=>.obj C (jQ K l)) .own (λv=>.cell (ae2 none (λa=>some (ex K a)) v)) .src .any .tab
theorem aU.ex{T:KT}{K:Kn}(H:ez T K){α N v a}(h:aU T α N v a):aU T α N v (jQ K a):=aU.ind (P:=λv a=>aU T α N v (jQ K a)) .nil (λq b r=>.cons (VR.ex H q) r) h
theorem bM.ex{P:Params}{K:Kn}(H:ez T K){α N a}:∀ {v},bM P T α N v a->bM P T α N v (jQ K a):=by
 induction a with
 |nil=>intro v h;rw[h.nil_inv];exact .nil
 |cons p a b=> intro v h;refine cj (bM.ck (x:=p.1) (av:=p.2) h) ?_;clear h;intro t w d c q r;subst c;exact .cons (VR.ex H q) (b r)
theorem OR.ex{W:Wd}{K:Kn}(H:ez W.kt K){α N i o ao}(h:OR W α N i o ao):OR W α N i o (l5 K ao):=by
 induction h using OR.casesOn with
 |list r=>exact .list (ah.ex H r)
 |dict e r=>exact .dict e (aU.ex H r)
 |obj e h m r=>exact .obj e h m (bM.ex H r)
 |own=>exact .own
 |cell e h=>exact .cell e (VR.ex H h)
 |mq e=>exact .mq e
 |src a b=>exact .src a b
 |any=>exact .any
 |tab c a b=>exact .tab c a b
noncomputable def Tr.lI (g:AO->AO) (t:Tr):Tr:=Tr.rec (motive:=λa=>Tr) .em (λo=>.lf (g o)) (λm a a l r=>.nd m l r) t
theorem zU{g:AO->AO}{t:Tr}:(t.lI g).get i=(t.get i).map g:=by
 induction t with
 |em=>rfl
 |lf o=>rfl
 |nd m l r a b=> show (Tr.nd m (l.lI g) (r.lI g)).get i=_;rw[nW,nW,a,b];exact (apply_ite (Option.map g) _ _ _).symm
theorem VW{g:AO->AO}(h:fm d b t):fm d b (t.lI g):=by
 induction h with
 |em=>exact .em
 |lf=>exact .lf
 |nd e f a c=>exact .nd a c
noncomputable def kD (K:Kn) (σ:LS):LS:=LS.rec (motive:=λa=>LS) (λl c t n lo m=>⟨l,c,t.lI (l5 K),n,n,m⟩) σ
theorem sY{K:Kn}{σ:LS}:kD K σ=⟨σ.loc,σ.aK,σ.st.lI (l5 K),σ.n,σ.n,σ.mark⟩:=by induction σ using LS.casesOn;rfl
theorem SR.kD{W:Wd}{c:Cx W}{K:Kn}(H:ez W.kt K){σ:LS}{s:aep}{α N}(R:SR c σ s α N):SR c (Eng.kD K σ) s α N:=by
 rw[sY];refine⟨R.fr,R.aK,R.news,R.nodup,R.inj,λi o hi e=>?_,R.all,R.hi,VW R.wf,R.bD,R.len,aeD _,R.bt,R.gens,R.os,R.aZ⟩
 have d:(σ.st.lI (l5 K)).get i=some o:=e;rw[zU]at d;induction q:σ.st.get i using aeB with
 |none=>rw[q]at d;exact aT d
 |some f=> rw[q]at d;have k:=aej d;clear d;subst o;refine aH (R.obj i f hi q) ?_;clear R hi q;intro a b g h j;exact (bB a b g h (j.ex H))
theorem aU.un{T:KT}{K:Kn}(H:ez T K){α N}(l:List (Str×O)):∀ {v},aU T α N v (jQ K l)->aU T α N v l:=by
 induction l with
 |nil=>exact λh=>h
 |cons p l a=> intro v h;refine aH (aU.ck (x:=p.1) (av:=Eng.ex K p.2) (abs:=jQ K l) h) ?_;clear h;intro w c b q r;subst b;exact .cons (VR.un H p.2 q) (a r)
theorem bM.un{P:Params}{K:Kn}(H:ez T K){α N}(l:List (Str×O)):∀ {v},bM P T α N v (jQ K l)->bM P T α N v l:=by
 induction l with
 |nil=>exact λh=>h
 |cons p l a=> intro v h;refine cj (bM.ck (x:=p.1) (av:=Eng.ex K p.2) (aes:=jQ K l) h) ?_;clear h;intro t w c b q r;subst b;exact .cons (VR.un H p.2 q) (a r)
theorem OR.un{W:Wd}{K:Kn}(H:ez W.kt K){α N i o}{ao:AO}(h:OR W α N i o (l5 K ao)):OR W α N i o ao:=by
 induction ao using AO.casesOn with
 |list l=>
  refine be ((show OR W α N i o (.list (dh K l)) from h).inv) ?_;intro k n b r;subst b;exact .list (ah.un H l r)
 |dict l=>
  refine Y ((show OR W α N i o (.dict (jQ K l)) from h).inv) λm e r=>?_
  exact .dict e (aU.un H l r)
 |obj C l=>
  refine ir ((show OR W α N i o (.obj C (jQ K l)) from h).inv) ?_;intro j d p n b c f g r;subst b;exact .obj c f g (bM.un H l r)
 |cell v=>
  induction v using aeB with
  |some a=>
   refine Y ((show OR W α N i o (.cell (some (Eng.ex K a))) from h).inv) λu e r=>?_
   exact .cell e (VR.un H a r)
  |none=>exact h
 |_=>exact h
theorem SR.unW{W:Wd}{c:Cx W}{K:Kn}(H:ez W.kt K){s:aep}{α N}(d:Wf 10 σ.st) (f:σ.lo<=σ.n) (R:SR c (Eng.kD K σ) s α N):SR c σ s α N:=by
 rw[sY]at R;refine⟨R.fr,R.aK,R.news,R.nodup,R.inj,λi o hi e=>?_,R.all,R.hi,d,R.bD,R.len,f,R.bt,R.gens,R.os,R.aZ⟩
 refine aH (R.obj i (l5 K o) hi (by show (σ.st.lI (l5 K)).get i=_;rw[zU,e];rfl)) ?_;clear R hi e;intro a b g h j
 exact (bB a b g h (j.un H))
noncomputable def nJ (n:Nat):O->O->Bool:=af6 (motive:=λd=>O->O->Bool) (λd d=>false) (λd e a b=>match a with
 |.none=>(match b with|.none=>true|_=>false)
 |.bool x=>(match b with|.bool y=>x ==y|_=>false)
 |.int x=>(match b with|.int y=>decide (x=y)|_=>false)
 |.str x=>(match b with|.str y=>seq x y|_=>false)
 |.tup l=>(match b with|.tup r=>mL e l r|_=>false)
 |.hl l=>(match b with|.hl r=>mL e l r|_=>false)
 |.may c x=>(match b with|.may g y=>and (aew c g) (e x y)|_=>false)
 |.ref i=>(match b with|.ref j=>aew i j|_=>false)
 |.glob i=>(match b with|.glob j=>aew i j|_=>false)
 |.ty f k=>(match b with|.ty h m=>and (aew f h) (aew k m)|_=>false)
 |_=>false) n
theorem XJ:∀ {a b:O},nJ n a b=true->a=b:=by
 induction n with
 |zero=>intro a b h;exact aX h
 |succ n g=>
  intro a b h;have j:∀ {l r:List O},mL (nJ n) l r=true->l=r:=by
   intro l;induction l with
   |nil=>intro r h;exact (sW h).symm
   |cons a l m=>
    intro r h;refine aH (mh h) ?_;intro b t o d e;subst o;rw[g d,m e]
  induction a using O.casesOn with
  |none=>induction b using O.casesOn<;>first|rfl|exact aX h
  |bool x=>induction b using O.casesOn<;>first|exact aX h|exact congrArg _ (beq_iff_eq.mp (show (x ==_)=true from h))
  |int x=>induction b using O.casesOn<;>first|exact aX h|exact congrArg _ (of_decide_eq_true (show decide (x=_)=true from h))
  |str x=>induction b using O.casesOn<;>first|exact aX h|exact congrArg _ (gG.mp (show seq x _=true from h))
  |tup l=>
   induction b using O.casesOn<;>try exact aX h
   rw[j (show mL (nJ n) l _=true from h)]
  |hl l=>
   induction b using O.casesOn<;>try exact aX h
   rw[j (show mL (nJ n) l _=true from h)]
  |may c x=>
   induction b using O.casesOn<;>try exact aX h
   rename_i p y;refine ae (aei.mp (show and (aew c p) (nJ n x y)=true from h)) λd e=>?_
   rw[aem d,g e]
  |ref i=>induction b using O.casesOn<;>first|exact aX h|exact congrArg _ (aem h)
  |glob i=>induction b using O.casesOn<;>first|exact aX h|exact congrArg _ (aem h)
  |ty f k=>
   induction b using O.casesOn<;>try exact aX h
   rename_i q s;refine ae (aei.mp (show and (aew f q) (aew k s)=true from h)) λd e=>?_
   rw[aem d,aem e]
  |_=>exact aX h
structure Fl where
 nf:Bool
 lo:Bool
 sf:Bool
structure Dq where
 nf:Nat
 lo:Bool
 sf:Nat
noncomputable def lJ{α:Type}(b:Bool)(x:α):Option α:=match b with
 |true=>some x
 |false=>none
noncomputable def DK (fl:Fl)(d:Dq)(c:Nat):Option Bool:=match c with
 |2=>lJ fl.lo d.lo
 |3=>lJ fl.sf (afu 0 d.sf)
 |4=>lJ fl.nf (afu 0 d.nf)
 |5=>lJ fl.nf (afu 1 d.nf)
 |_=>none
noncomputable def vh (r t:Bool)(fl:Fl)(d:Dq)(f k:Nat):Option O:=match f with
 |5=>lJ fl.sf (.str (iY d.sf))
 |20=>(match aew k 5 with
  |true=>lJ fl.lo (.bool d.lo)
  |false=>lJ fl.sf (g8 r t k d.sf))
 |_=>none
noncomputable def kn(r t:Bool)(fl:Fl)(d:Dq):Kn:=⟨DK fl d,vh r t fl d⟩
noncomputable def mN(b:Bool)(n:Nat):Nat:=match b with
 |true=>n
 |false=>0
noncomputable def mB(b x:Bool):Bool:=match b with
 |true=>x
 |false=>false
theorem j0{α:Type}{x y:α}(h:lJ b x=some y):x=y:=by
 unfold lJ at h;split at h<;>cases h
 rfl
noncomputable def aba(d:Dq)(n c:Nat):Bool:=match c with
 |0=>afu 0 n
 |1=>afu 1 n
 |2=>d.lo
 |3=>afu 0 d.sf
 |4=>afu 0 d.nf
 |_=>afu 1 d.nf
theorem T9 (r t:Bool) (k a:Nat):(g8 r t k a).sure=true:=by
 have:bz 20 (g8 r t k a) (g8 r t k a)=true:=Lr r t k a
 cases h:g8 r t k a<;>first|rfl|(rw[h]at this;exact aX this)
section
variable{prog:ae9}{w:afq}{sl:KX}{tok:Nat->Fm}{bl:Nat->Bool}{src:List (aez×List ael)}{os:afw}{r t:Bool}{d:Dq}{ni:Nat}
noncomputable abbrev DL (prog:ae9) (w:afq) (sl:KX) (r t:Bool) (tok:Nat->Fm) (bl:Nat->Bool) (d:Dq) (ni:Nat) (src:List (aez×List ael)) (os:afw):Wd:=ba prog w sl tok bl ⟨r,t,d.nf,d.lo,d.sf⟩ (aba d ni) src os
theorem abb (fl:Fl):ez (DL prog w sl r t tok bl d ni src os).kt (kn r t fl d):=by
 refine⟨λi b e=>?_,λf k x e=>?_,λf k x e=>?_⟩
 ·have a:DK fl d i=some b:=e;unfold DK at a;split at a
  ·exact j0 a
  ·exact j0 a
  ·exact j0 a
  ·exact j0 a
  ·exact aT a
 ·have a:vh r t fl d f k=some x:=e;unfold vh at a;split at a
  ·exact j0 a
  ·split at a
   ·rename_i q;rw[aem q];exact j0 a
   ·rename_i q;show yV _ k=x;unfold yV;rw[q];exact j0 a
  ·exact aT a
 ·have a:vh r t fl d f k=some x:=e;unfold vh at a;split at a
  ·rw[←j0 a];rfl
  ·split at a
   ·rw[←j0 a];rfl
   ·rw[←j0 a];exact T9 _ _ _ _
  ·exact aT a
end
noncomputable def j3 (b:Bool) (f:Nat->Rs):Rs:=match b with
 |true=>join (f 0) (join (f 1) (f 2))
 |false=>f 0
noncomputable def jB (b:Bool) (f:Bool->Rs):Rs:=match b with
 |true=>join (f true) (f false)
 |false=>f false
noncomputable def Bi(fl:Fl)(f:Dq->Rs):Rs:=j3 fl.nf λa=>jB fl.lo λlo=>j3 fl.sf λb=>f ⟨a,lo,b⟩
theorem Lw{f:Nat->Rs}(h:j3 b f=y) (a:y≠.no) (d:n<=2):f (mN b n)=y:=by
 unfold j3 at h;split at h
 ·refine ae (md h a) λe c=>?_
  refine ae (md c a) ?_;clear c a;intro c g;have:n=0\/n=1\/n=2:=by omega
  rcases this with rfl|rfl|rfl<;>assumption
 ·exact h
theorem abc{f:Bool->Rs}(h:jB b f=y) (a:y≠.no) (x:Bool):f (mB b x)=y:=by
 unfold jB at h;split at h
 ·refine ae (md h a) ?_;clear a;intro c d;induction x using aen<;>assumption
 ·exact h
theorem VX:kn r t fl ⟨mN fl.nf d.nf,mB fl.lo d.lo,mN fl.sf d.sf⟩=kn r t fl d:=by
 obtain ⟨a,b,c⟩:=fl;induction a using aen<;>induction b using aen<;>induction c using aen<;>rfl
theorem Ua{f:Kn->Rs}(h:Bi fl (λd=>f (kn r t fl d))=y) (a:y≠.no) (b:d.nf<=2) (c:d.sf<=2):f (kn r t fl d)=y:=by
 have q:=Lw (abc (Lw h a b) a d.lo) a c;rw[←VX (fl:=fl) (d:=d)];exact q
noncomputable def oG (n:Nat) (w:O):Kv:=λv a=>match aeZ n a.lo with
 |true=>(match fV n v a with
  |.ok r=>(match nJ (nat_lit 40) r w with
   |true=>.ok .none
   |false=>.no)
  |_=>.no)
 |false=>.no
theorem Fs(h:oG n w v σ=y)(a:y≠.no):y=.ok .none/\aeZ n σ.lo=true/\fV n v σ=.ok w:=by
 unfold oG at h;split at h
 ·rename_i c;split at h
  ·rename_i r b;split at h
   ·rename_i q;rw[XJ q]at b;exact(bH h.symm c b)
   ·exact bO h a
  ·exact bO h a
 ·exact bO h a
theorem Ub{prog:ae9}{w:afq}{sl:KX}{tok:Nat->Fm}{bl:Nat->Bool}{cond:Nat->Bool}{os:afw}{r t:Bool}(H:gp r t tok){n:Nat}{g:Call}(q:dw (ba prog w sl tok bl u cond src os) n g):dw (ba prog w sl tok bl u cond src os) (n+1) (qY r t vf n g):=by
 intro c A j l f i b k y h x s D N E R F z B m o G Q p;have C:eP cR cU cQ g f i b k=y->WP (ba prog w sl tok bl u cond src os) A (afl z B) Q E s:=λh=>pY mM mi q c A j l f i b k y h x s D N E R F z B m o G Q p
 have d:(match tL r t (afk n) f i b with
  |some a=>k a b
  |none=>(match sX f with
   |true=>(match yZ (afk n) (eP cR cU cQ g) i b k with
    |some y=>y
    |none=>eP cR cU cQ g f i b k)
   |false=>eP cR cU cQ g f i b k))=y:=h
 split at d
 ·rename_i a I;exact Fp H j l R I m o λv V W L M P=>p _ _ _ _ _ _ d L M P
 ·split at d
  ·rename_i S;have e:=EH S;subst e;split at d
   ·rename_i X T;subst d;exact G1 H (pY mM mi q c A j l) j l R T x m o p
   ·exact C d
  ·exact C d
noncomputable abbrev Rt:=O->List O->Option (Fl×O)
noncomputable def XF (r t:Bool) (c:Rt):Ext:=λn e f b a k=>match c f b with
 |none=>none
 |some p=>(match Bi p.1 λd=>qY r t vf n e f (dh (kn r t p.1 d) b) (kD (kn r t p.1 d) a) (oG a.n (ex (kn r t p.1 d) p.2)) with
  |.ok g=>some (k p.2 a)
  |.exc C=>some (.exc C)
  |.no=>none)
theorem zE{K:Kn}(H:ez T K):∀ {l:List O},ae1 l=true->ae1 (dh K l)=true
 |[],d=>rfl
 |a::l,h=>by refine ae (gB h) ?_;clear h;intro b c;rw[vK b];unfold ae1;rw[ahR,Aj H b];exact zE H c
theorem abd{prog:ae9}{w:afq}{sl:KX}{tok:Nat->Fm}{bl:Nat->Bool}{src:List (aez×List ael)}{os:afw}{r t:Bool}{d:Dq}{ni:Nat}(HT:gp r t tok) (C0:d.nf<=2) (hsf:d.sf<=2){rt:Rt}:xe (DL prog w sl r t tok bl d ni src os) (XF r t rt):=by
 intro n D hih c qd V hA p u j qe y h hy s F N E R hE W X Z hv hp qa hQ;unfold XF at h;split at h
 ·exact aT h
 rename_i qf hrt;obtain ⟨b,x⟩:=qf;dsimp only at h;have H:=abb (prog:=prog) (w:=w) (sl:=sl) (tok:=tok) (bl:=bl) (src:=src) (os:=os) (r:=r) (t:=t) (d:=d) (ni:=ni) b;have key:∀ z,Bi b (λd=>qY r t vf n D p (dh (kn r t b d) u) (kD (kn r t b d) j) (oG j.n (ex (kn r t b d) x)))=z->z≠.no->qY r t vf n D p (dh (kn r t b d) u) (kD (kn r t b d) j) (oG j.n (ex (kn r t b d) x))=z:=λz G I=>Ua (f:=λK=>qY r t vf n D p (dh K u) (kD K j) (oG j.n (ex K x))) G I C0 hsf
 have k:=R.kD H;have ux:=Ub HT hih c qd V hA p (dh (kn r t b d) u) (kD (kn r t b d) j) (oG j.n (ex (kn r t b d) x));split at h
 ·rename_i v0 L;have bj:=aej h;clear h;subst y;have M:=key _ L (by intro h;contradiction)
  refine ux _ M (by intro h;contradiction) s F N E k (λqg e A l B m q=>by contradiction) W X Z (ah.ex H hv) (zE H hp) qa λa A v l B m C P g gW=>?_
  refine bU (Fs C (by intro h;contradiction)) λQ eU hh=>?_
  rw[sY]at k g;refine ae (k.restore P g (aer eU)) ?_;clear eU;intro cw S;have lb:=si V k P g gW hh;have bW:SR c j l F m:=SR.unW H R.wf R.low (by rw[sY];exact cw)
  refine hQ _ _ _ _ _ _ rfl bW ⟨⟨S.ge,aeD _,λQ Q=>rfl,aeD _,rfl,λi a qh T G I nt=>S.obs i a qh (aet T R.low) G I λqb fb e=>?_,λi T=>⟨rfl,(S.bf i T).2⟩⟩,rfl⟩ (lb.un H)
  have o:(j.st.lI (l5 (kn r t b d))).get i=some qb:=e;rw[zU]at o;induction q:j.st.get i using aeB with
  |none=>rw[q]at o;exact aT o
  |some o'=>
   rw[q]at o;have e2:l5 (kn r t b d) o'=qb:=aej o;subst e2;induction o' using AO.casesOn with
   |src qe=>exact nt _ rfl q
   |tab Cy u2_=>exact nt _ rfl q
   |cell v=>induction v using aeB<;>exact aX fb
   |_=>exact aX fb
 ·rename_i qg L;have bj:=aej h;clear h;subst y;have M:=key _ L (by intro h;contradiction)
  refine ux _ M (by intro h;contradiction) s F N E k (λC' e A l B m q g qc qi=>?_) W X Z (ah.ex H hv) (zE H hp) qa λa A v l B m C P g gW=>?_
  ·rw[sY]at g qc;exact hE C' e A l B m q ⟨g.ge,g.mark,g.bf⟩ qc qi
  ·refine ae (Fs C (by intro h;contradiction)) ?_;clear C;intro e Q
   contradiction
 ·exact aT h
noncomputable def pJ:O:=j9 [jx dY]
noncomputable def u8T:O:=.tup [.str il,.str dY]
noncomputable def mR:O:=.tup [.tup [],.tup []]
noncomputable def ry:O:=.tup [.str o8,.int 0,.tup [],.none]
noncomputable def Lx(t:Bool):List O:=match t with
 |true=>[.tup [.str cO,.tup []]]
 |false=>[]
noncomputable def G7 (r t:Bool):O:=j9 [.tup [.str fh,nh r,.tup (match t with|true=>[j9 [jx cO]]|false=>[])]]
noncomputable def vj(x:Str)(a:O):O:=.tup [.str x,a,.bool true]
noncomputable def adO (n:Nat):O:=match n with
 |1=>.tup [vj iQ pJ,vj iQ pJ]
 |2=>.tup [vj iQ (j9 [jx ML])]
 |3=>.tup [vj iQ (j9 [jx o5,jx fJ,.tup [.str o6,.tup [],.tup [pJ]]])]
 |4=>.tup [vj iQ (.tup [.str s0,.int 0,.str MM,.bool false,pJ])]
 |_=>.tup [.may 4 (.tup [.str iQ,.ty 0 0,.ty 7 0]),.may 5 (.tup [.str MW,.ty 0 1,.ty 7 1])]
noncomputable def DM(body:O):O:=.tup [.str gR,.int 0,.str m6,mR,.ty 5 0,.tup [],.none,body,.bool false]
noncomputable def Ly:O:=.tup [.str gR,.int 0,.str MN,mR,.none,.tup [],.none,ry,.bool false]
noncomputable def adP(n:Nat)(a:Bool):List O:=match n with
 |5=>(match a with|true=>[Ly]|false=>[DM ry,Ly])
 |_=>(match a with|true=>[]|false=>[DM ry])
noncomputable def Bj:O:=.tup [.str B7,.int 0]
noncomputable def adQ (lo:Bool):O:=.tup (.may 0 (.tup [Bj,.ty 0 2])::.may 1 (.tup [Bj,.ty 0 3])::(match lo with|true=>[.tup [Bj,.tup [.str s0,.int 0,.none,.bool false,pJ]]]|false=>[]))
noncomputable def y6(lo:Bool)(x:Str)(g a:O):O:=.tup [.str gR,.int 0,.str x,g,a,adQ lo,.ty 0 4,ry,.bool true]
noncomputable def adR (r t lo:Bool):List O:=match and r t with
 |true=>[]
 |false=>[y6 lo kz mR (.ty 5 0)]
noncomputable def uy (r t:Bool):O:=.tup [nh r,.tup (Lx t)]
noncomputable def adS (n:Nat)(r t:Bool):O:=match n with
 |6=>.tup [nh r,.tup (Lx t++[.tup [.str MO,.tup []]])]
 |_=>uy r t
noncomputable def fQ (n:Nat)(r t lo:Bool):List O:=match n with
 |7=>[y6 lo rv mR (.str ki)]
 |8=>[y6 lo rv (uy r t) .none,.tup [.str gR,.int 0,.str rv,mR,.none,.tup [],.none,ry,.bool true]]
 |_=>[y6 lo rv (uy r t) .none]
noncomputable def XK (n:Nat)(r t lo a:Bool):O:=.hl [
 .tup [.str jK,.int 0,.str fh,uy r t,.str pE,adO n,.bool true],
 .tup [.str gA,.int 0,.str jv,mR,.tup [DM (match a with|true=>ry|false=>.none)],.bool true],
 .tup [.str xZ,.int 0,uy r t,.none,G7 r t,.tup (adR r t lo)],
 .tup [.str xZ,.int 0,adS n r t,.tup [.tup [.str jv,.tup [],.tup []]],G7 r t,.tup (adP n a)],
 .tup [.str uh,.int 0,.str ui,.ty 0 9,.tup [.str il,.int 0,.int 1,.none],.bool true],
 .tup [.str kA,.int 0,.str fJ,.tup ([.tup [.str jK,.int 0,.str B8,mR,.str pE,.tup [.tup [.str MP,pJ,.bool false]],.bool true], .tup [.str lX,.int 0,.str o6,mR,.tup [.tup [.str Cb,.str Cc,.tup []],.tup [.str B9,.str s3,.tup [.tup [.str Ca,pJ,.bool true]]]],.bool true]]++fQ n r t lo),.bool true]]
noncomputable def abe(x:Str):Nat:=match seq x dj with
 |true=>0
 |false=>(match seq x xT with
  |true=>1
  |false=>(match seq x xU with
   |true=>2
   |false=>(match seq x xV with
    |true=>3
    |false=>(match seq x xW with
     |true=>4
     |false=>(match seq x xX with
      |true=>5
      |false=>(match seq x xY with
       |true=>6
       |false=>(match seq x x9 with
        |true=>7
        |false=>8)))))))
noncomputable def M9:O->Bool:=O.rec (motive_1:=λd=>Bool) (motive_2:=λd=>Bool)
 false (λd=>false) (λd=>false) (λd=>false) (λd b=>b) (λd b=>b) (λc d b=>or (aeZ (nat_lit 2) c) b) (λd=>false) (λd=>false) (λf d=>or (aew f (nat_lit 20)) (aew f (nat_lit 5))) (λd d b=>b) (λd d=>false) false (λd=>false)
 false (λd d a b=>or a b)
noncomputable def OT (lo:Bool)(a:List O)(nm:O)(b:List O)(l:List O)(out:O):O:=match l with
 |[]=>.tup [.tup a,out,.tup b]
 |_=>(match lo with
  |true=>.tup [.tup (a++[.may 0 (.ty 1 2),.may 1 (.ty 1 3),.tup [.str s0,nm,.bool false,u8T]]),out,.tup (b++[nm])]
  |false=>.tup [.tup (a++[.may 0 (.ty 1 2),.may 1 (.ty 1 3)]),out,.tup b])
noncomputable def rtQ (r t lo d:Bool) (f:O) (args:List O):Option (Fl×O):=match f with
 |.glob a=>(match aew (Nat.land (Nat.shiftRight (nat_lit 76746917590869955926638284206271723245069422765162431296614771682689643796331211918148015525680891195720037841523562608474805433382087201871564817909410761247576228734766429741026512531102120636031405739249790447863328055587384038736909627577130148508545762891074460182316451276783616) a) (nat_lit 1)) (nat_lit 1) with
  |false=>none
  |true=>(match a with
   |933=>(match args with
    |[b,.str x]=>some (⟨true,false,false⟩,XK (abe x) r t lo d)
    |_=>none)
   |811=>(match args with
    |[b,st,.ty 5 e]=>(match nJ 8 st Bf with
     |true=>some (⟨false,false,true⟩,.ty 20 0)
     |false=>(match nJ 8 st (AF r t) with
      |true=>some (⟨false,false,true⟩,.ty 20 2)
      |false=>none))
    |_=>none)
   |149=>(match args with
    |[.hl l,c,g,b]=>(match g with
     |.ty 5 b=>(match l with
      |.ty 20 0::l=>some (⟨false,false,true⟩,OT lo [.ty 20 1] (.ty 20 4) [.may 3 (.str h9)] l c)
      |.ty 20 2::l=>some (⟨false,false,true⟩,OT lo [.ty 20 3] (.ty 20 4) [.may 3 (.str h9)] l c)
      |_=>none)
     |_=>none)
    |_=>none)
   |163=>(match args with
    |[h,kn,b]=>(match or (M9 h) (M9 kn) with
     |true=>some (⟨false,false,true⟩,.none)
     |false=>none)
    |_=>none)
   |799=>(match args with
    |[b,e,.tup (.may 4 i::j),k]=>some (⟨true,false,false⟩,.hl [.may 4 (.tup [.str iQ,.ty 1 0]),.may 5 (.tup [.str MW,.ty 1 1])])
    |_=>none)
   |402=>some (⟨false,false,true⟩,.none)
   |943=>some (⟨true,false,false⟩,.bool true)
   |938=>some (⟨false,false,true⟩,.bool true)
   |409=>some (⟨true,false,false⟩,.none)
   |_=>none))
 |_=>none
section
variable{prog:ae9}{w:afq}{sl:KX}{tok:Nat->Fm}{bl:Nat->Bool}{dm:Dm}{cond:Nat->Bool}{src:List (aez×List ael)}{os:afw}
noncomputable abbrev mS (prog:ae9) (w:afq) (sl:KX) (r t:Bool) (fs:List Fm) (s1 s2:Bool) (ins:List Fm) (lo:Bool) (o cn:Fm) (a:Nat) (src:List (aez×List ael)) (os:afw):Wd:=
 DL prog w sl r t (tokOf fs ins o cn) (adN s1 s2) ⟨fs.length,lo,a⟩ ins.length src os
noncomputable def gc (r t lo a:Bool):List (Str×O):=rX r t (.hl [.may 4 (iZ 0),.may 5 (iZ 1)]) (.hl [.ty 7 0,.ty 7 1]) (.hl [.may 0 (iZ 2),.may 1 (iZ 3)]) (.bool lo) (iZ 4) (iZ 9) (.ty 5 0) (.bool a)
theorem vU{σ:LS}{o:AO}(h:Wf 10 σ.st):Wf 10 (σ.push o).st:=by induction σ using LS.casesOn;exact Wf.set h
theorem OU:Wf 10 kB.st:=vU (vU (vU (vU yp)))
theorem adT:Wf 10 ia.st:=by show Wf 10 (Tr.set (.src 0) 10 kB.st 4);exact Wf.set OU
theorem wfT:Wf 10 (rY a):=Wf.set (Wf.set (Wf.set adT))
theorem OR.sZ(e:o.sZ=true)(h:OR W α N i b o):OR g α N i b o:=by
 induction o using AO.casesOn with
 |tab P q=>refine j1 h.inv ?_;intro j w c d f;subst w;exact .tab c d f
 |src k=>refine sb h.inv ?_;clear h;intro a l t u n w c d;subst w;exact .src c d
 |_=>exact aX e
inductive To (T T':KT) (α:List aez) (N:Led):List (Str×O)->List (Str×O)->Prop
 |nil:To T T' α N [] []
 |cons{x a b l r}:(∀ v,VR T α N v a->VR T' α N v b)->To T T' α N l r->To T T' α N ((x,a)::l) ((x,b)::r)
theorem aU.to (h:To T a α N l r):∀ {bs},aU T α N bs l->aU a α N bs r:=by
 induction h with
 |nil=>exact λh=>h.nil_inv▸.nil
 |cons q e w=> intro bs h;refine aH h.ck ?_;clear h;intro v f b c d;subst b;exact .cons (q v c) (w d)
theorem G8 (g:a.K=T.K) (p:fs.length<=2) (k:∀ x∈fs,kC x=true) (l:a.cond c=afu 0 fs.length) (m:a.cond d=afu 1 fs.length) (b:a.θ 0 i=((fs[0]?).getD fU).w/\a.θ 1 i=((fs[0]?).getD fU).t) (o:a.θ 0 j=((fs[1]?).getD fU).w/\a.θ 1 j=((fs[1]?).getD fU).t) (h:VR T α N v (dc fs)):VR a α N v (.hl [.may c (iZ i),.may d (iZ j)]):=by
 refine VR.xi (M:=λv C=>VR a α N v (.hl [.may c (iZ i),.may d (iZ j)])) (λq r w=>.hl q r ?_) h
 induction fs using aeC with
 |nil=>rw [w.nil_inv];exact .no l (.no m .nil)
 |cons x fs=> induction fs using aeC with
  |nil=>
  refine aH (w.ck rfl) λs t e n f=>?_
  rw [e,f.nil_inv];exact .yes l (sE g (k x (.head _)) b.1 b.2 n) (.no m .nil)
  |cons y fs=>
  have u:=agn.mp (Nat.le_zero.mp (Nat.le_of_succ_le_succ (Nat.le_of_succ_le_succ p)));subst u;refine aH (w.ck rfl) ?_;clear w;intro s t e n f;refine aH (f.ck rfl) ?_;clear f;intro D E z A B;rw [e,z,B.nil_inv];exact .yes l (sE g (k x (.head _)) b.1 b.2 n) (.yes m (sE g (k y (.tail _ (.head _))) o.1 o.2 A) .nil)
theorem XM{T a:KT}(b:a.K=T.K){s1 s2:Bool}(d:a.θ 7 0=.bool s1) (f:a.θ 7 1=.bool s2){v}(h:VR T α N v (.hl [.bool s1,.bool s2])):VR a α N v (.hl [.ty 7 0,.ty 7 1]):=by
 refine VR.xi (M:=λv s=>VR a α N v (.hl [.ty 7 0,.ty 7 1])) (λg i w=>.hl g i ?_) h
 refine aH (w.ck rfl) ?_;clear w;intro j t e k c;refine aH (c.ck rfl) ?_;clear c;intro l u m o p;have q:VR a α N j (a.θ 7 0):=d▸k.swap b (n:=1) (beq_self_eq_true _);have r:VR a α N l (a.θ 7 1):=f▸o.swap b (n:=1) (beq_self_eq_true _);rw [e,m,p.nil_inv];exact .cons (.ty q) (.cons (.ty r) .nil)
theorem abf{prog w sl tok bl dm cond src os}{r t:Bool}{fs:List Fm}{s1 s2:Bool}{lo:Bool}{o cn:Fm}{b:Nat}{d:Bool}{α N}(e:fs.length<=2) (f:∀ x∈fs,x∈bE r t 2) (g:ins.length<=2) (i:∀ x∈ins,x∈bE r t 2) (j:o∈bE r t 1) (k:cn∈gI): To (ba prog w sl tok bl dm cond src os).kt (mS prog w sl r t fs s1 s2 ins lo o cn b src os).kt α N (rX r t (dc fs) (.hl [.bool s1,.bool s2]) (dc ins) (.bool lo) (dz o) (dz cn) (.str (iY b)) (.bool d)) (gc r t lo d):=
 have a:(mS prog w sl r t fs s1 s2 ins lo o cn b src os).kt.K=(ba prog w sl tok bl dm cond src os).kt.K:=rfl;.cons (λv h=>h.swap a (n:=3) (by induction r using aen<;>kernel_rfl)) (.cons (λv h=>h.swap a (n:=3) (by induction t using aen<;>kernel_rfl)) (.cons (λv h=>G8 a e (λx c=>Cp (f x c)) rfl rfl ⟨rfl,rfl⟩ ⟨rfl,rfl⟩ h) (.cons (λv h=>XM a rfl rfl h) (.cons (λv h=>G8 a g (λx c=>Cp (i x c)) rfl rfl ⟨rfl,rfl⟩ ⟨rfl,rfl⟩ h) (.cons (λv h=>h.swap a (n:=1) (beq_self_eq_true _)) (.cons (λv h=>sE a (adM j) rfl rfl h) (.cons (λv h=>sE a (aa8 k) rfl rfl h) (.cons (λv h=>.ty (h.swap a (n:=1) (gG.mpr rfl))) (.cons (λv h=>h.swap a (n:=1) (beq_self_eq_true _)) .nil)))))))))
theorem at8 (b:i<8):(∃ o,o.sZ=true/\(∀ a,(rY a).get i=some o)/\∀ c a,(pI c a).get i=some o)\/((∀ a,(rY a).get i=some .any)/\∃ o:Bool->Bool->AO,∀ r t a,(pI (.cell (some (ka r t))) a).get i=some (o r t))\/(i=7/\(∀ a,(rY a).get 7=some (.dict a))/\∀ c a,(pI c a).get 7=some a):=by
 induction i using aeI with
 |zero=>exact .inl ⟨.tab 813 xS,rfl,λw=>by kernel_rfl,λw w=>by kernel_rfl⟩
 |succ i=> induction i using aeI with
  |zero=>exact .inl ⟨.tab 146 s9,rfl,λw=>by kernel_rfl,λw w=>by kernel_rfl⟩
  |succ i=> induction i using aeI with
   |zero=>exact .inl ⟨.tab 392 yN,rfl,λw=>by kernel_rfl,λw w=>by kernel_rfl⟩
   |succ i=> induction i using aeI with
    |zero=>exact .inl ⟨.tab 302 yL,rfl,λw=>by kernel_rfl,λw w=>by kernel_rfl⟩
    |succ i=> induction i using aeI with
     |zero=>exact .inl ⟨.src 0,rfl,λw=>by kernel_rfl,λw w=>by kernel_rfl⟩
     |succ i=> induction i using aeI with
      |zero=>exact .inr (.inl (LA (λw=>by kernel_rfl) (λr t=>.cell (some (ka r t))) (λw w w=>by kernel_rfl)))
      |succ i=> induction i using aeI with
       |zero=>exact .inr (.inl (LA (λw=>by kernel_rfl) (λw w=>.cell (some (.ref 4))) (λw w w=>by kernel_rfl)))
       |succ i=> induction i using aeI with
        |zero=>exact .inr (.inr (bH rfl (λw=>by kernel_rfl) (λw w=>by kernel_rfl)))
        |succ i=> exact absurd b (aft.mpr (agC 8 i))
theorem VY{c:Cx (ba prog w sl tok bl dm cond src os)}(u:c.comp=none){r t:Bool}{fs:List Fm}{s1 s2:Bool}{ins:List Fm}{lo:Bool}{o cn:Fm}{p:Nat}{y:Bool}{s:aep}{α N}
  (D:fs.length<=2) (E:∀ x∈fs,x∈bE r t 2) (G:ins.length<=2) (H:∀ x∈ins,x∈bE r t 2) (I:o∈bE r t 1) (L:cn∈gI)
  (R:SR c (M8 r t (rX r t (dc fs) (.hl [.bool s1,.bool s2]) (dc ins) (.bool lo) (dz o) (dz cn) (.str (iY p)) (.bool y))) s α N):
  SR (c.to (mS prog w sl r t fs s1 s2 ins lo o cn p src os)) (eH lG (gc r t lo y)) s α N:=by
 refine⟨?_,(λA A e=>nomatch e),R.news,R.nodup,R.inj,(λi z B e=>?_),R.all,R.hi,wfT,aer rfl,R.len,afj _,(λA h=>nomatch h),R.gens,R.os,R.aZ⟩
 ·refine Y R.fr λm F C=>?_
  refine (ay m F ((NR.none (c:=c.to (mS prog w sl r t fs s1 s2 ins lo o cn p src os)) u).mpr λn v e=>?_))
  refine cj ((NR.none u).mp C n v e) ?_;clear u C;intro x k val j l g
  refine (dy x k val j l ?_)
  rcases sT e with⟨_,rfl⟩|⟨_,rfl⟩
  ·refine Y g.inv λa f d=>?_;exact f▸.ref d
  ·refine Y g.inv λa f d=>?_;exact f▸.ref d
 ·have q:=λz (e:(pI (.cell (some (ka r t))) (.dict (rX r t (dc fs) (.hl [.bool s1,.bool s2]) (dc ins) (.bool lo) (dz o) (dz cn) (.str (iY p)) (.bool y)))).get i=some z)=>R.obj i z B e
  rcases at8 B with⟨x,M,f,d⟩|⟨f,x,d⟩|⟨rfl,f,d⟩
  ·obtain rfl:=aej ((f _).symm.trans e)
   refine aH (q x (d _ _)) λa b j l g=>?_
   exact (bB a b j l (g.sZ M))
  ·obtain rfl:=aej ((f _).symm.trans e)
   refine aH (q _ (d _ _ _)) λa b j l g=>?_
   exact (bB a b j l .any)
  ·obtain rfl:=aej ((f _).symm.trans e)
   refine aH (q _ (d _ _)) ?_;clear q d;intro a b j l g
   refine Y g.inv ?_;clear g;intro S P Q
   exact (bB a b j l (.dict P (Q.to (abf D E G H I L))))
end
noncomputable def L2 (k:Call):Sc:=(aC (aq 2) (az k 916 (U [J 1])))
noncomputable def L3 (k:Call):Sc:=(aC (aq 3) (az k 870 (U [az (bc k) 933 (U [J 2,wS dj])])))
noncomputable def L4 (k:Call):Sc:=(aB (bI (fc (cH (az (bc k) 943 (U [J 3,J 2])))) (bI (fc (cH (az (bc k) 948 (U [J 3,J 2])))) dQ)) (ag [aG (bp false)]) aF)
noncomputable def L5 (k:Call):Sc:=(aC (aq 4) (aY (U [ai (U [wS xT,cC (.glob 52)]),ai (U [wS xU,cC (.glob 52)]),ai (U [wS xV,cC (.glob 76)]),ai (U [wS xW,cC (.glob 52)]),ai (U [wS xX,cC (.glob 88)]),ai (U [wS xY,cC (.glob 100)]),ai (U [wS x9,cC (.glob 52)]),ai (U [wS Cd,cC (.glob 52)])])))
noncomputable def L6 (k:Call):Sc:=(aC (cD 2 (aV (aq 5) (aV (aq 6) bL))) (az k 891 (U [J 1,J 4])))
noncomputable def L8 (k:Call):Sc:=(aC (aq 7) (ai (U [wS gA,wI 0,wS MU,cC (.tup [.tup [],.tup []]),ai (U [ai (U [wS gR,wI 0,wS MV,cC (.tup [.tup [],.tup []]),wS s0,ai aI,wZ,wZ,bp false])]),bp true])))
noncomputable def L9 (k:Call):Sc:=(aC (aq 8) (af (aw [668,690] g7 (af (aw [719] rR (az k 870 (U [aY (U [J 7])]))) (wS MU))) (wS MV)))
noncomputable def OV (k:Call):Sc:=(aG (oN (c6 .Eq (aQ bJ (U [aw [647] fx (J 8)])) (ai (U [ai (U [wS s0,wS h9,bp false,ai (U [wS fu,wS ky])])]))) (c6 .Eq (aQ bJ (U [aw [626,647,690,752] eB (J 8)])) (ai (U [wS h9])))))
noncomputable def y7 (kr k:Call):Sc:=aB (fc (cH (az kr 955 (U [az (bc k) 933 (U [J 2,J 5]),J 6])))) (ag [aG (bp false)]) aF
noncomputable abbrev GL(k:Call)(d:Nat):Gm:=⟨fG.scope.names,k,d,none,false⟩
noncomputable def sL (i:Nat):Stmt:=(fG.body[i]?).getD (.Pass ⟨0,0,0,0⟩)
theorem Uc:fG.body=[sL 0,sL 1,sL 2,sL 3,sL 4,sL 5,sL 6,sL 7,sL 8,sL 9]:=by kernel_rfl
theorem lp (gx:GX W){L:Call->Sc}(h:∀ (W:Wd) (gx:GX W) k d,((cm gx aW fuel (GL k d)).s (sL i)).1=L k):JS W (GL k d) (sL i) (L k):=h W gx k d▸((cm gx aW fuel (GL k d)).s (sL i)).2
section
variable{W:Wd}(gx:GX W){k:Call}{d:Nat}
include gx
theorem lj2:JS W (GL k d) (sL 1) (L2 k):=lp gx (by intros;kernel_rfl)
theorem lj3:JS W (GL k d) (sL 2) (L3 k):=lp gx (by intros;kernel_rfl)
theorem lj4:JS W (GL k d) (sL 3) (L4 k):=lp gx (by intros;kernel_rfl)
theorem lj5:JS W (GL k d) (sL 4) (L5 k):=lp gx (by intros;kernel_rfl)
theorem lj6:JS W (GL k d) (sL 5) (L6 k):=lp gx (by intros;kernel_rfl)
theorem lj8:JS W (GL k d) (sL 7) (L8 k):=lp gx (by intros;kernel_rfl)
theorem lj9:JS W (GL k d) (sL 8) (L9 k):=lp gx (by intros;kernel_rfl)
theorem adU:JS W (GL k d) (sL 9) (OV k):=lp gx (by intros;kernel_rfl)
end
noncomputable def R7 (W:Wd)(G:Gm)(s:afD):={code:Call->Sc // ∀ (c:Cx W)A,c9 G c A->∀ a,jb c A a->bQ c A s (code a)}
noncomputable def c7 (gx:GX W) (m:Cm W G) (s:afD):R7 W G s:=match s with
 |.If (.UnaryOp .Not (.Call (.Name x q) l [] r) t) b o u=>dS (cP.name x) ⟨λd=>g0,λc A h d d=>oZ c A h⟩ λv i=>dG v ⟨λd=>g0,λc A h d d=>oZ c A h⟩ λa e=>dt (!l.any aeH) ⟨λd=>g0,λc A h d d=>oZ c A h⟩ λj=>dt (cg G.names x) ⟨λd=>g0,λc A h d d=>oZ c A h⟩ λk=>dt (Dp a) ⟨λd=>g0,λc A h d d=>oZ c A h⟩ λn=> ⟨λf=>aB (fc (cH (az f a (ee m false l).1))) (cB m b).1 (cB m o).1,λc A h f p=>sJ (FI (GA h.hc rfl ((aL (gh k) λd g=>zq h.hc p (nt j) (h.at g gi) (h.pl g) (ve gx (i.trans (congrArg some e))) ((afT _ _).mp (Dr gx n)) ((ee m false l).2 c A h))))) ((cB m b).2 c A h) ((cB m o).2 c A h)⟩
 |_=>⟨λd=>g0,λc A h d d=>oZ c A h⟩
noncomputable def adV (W:Wd) (k:Call) (d:Nat):Prop:=∀ (c:Cx W) A,c9 (GL k d) c A->∀ a,jb c A a->bQ c A (sL 6) (y7 a k)
theorem abg:∀ (W:Wd) (gx:GX W) k d,(c7 gx (cm gx aW fuel (GL k d)) (sL 6)).1=λkr=>y7 kr k:=by intros;kernel_rfl
theorem lj7 (gx:GX W):adV W k d:=λc A h a b=>(congrFun (abg W gx k d) a)▸(c7 gx (cm gx aW fuel (GL k d)) (sL 6)).2 c A h a b
section
section
variable{W:Wd}{c:Cx W}{A:ae6}{d:Nat}
theorem SR.Ud (l:c.comp=none) (R:SR c σ s α N) (f:SR c j u w q) (g:Sts ⟨σ.loc,σ.aK,σ.st,σ.n,σ.n,σ.mark⟩ α N j w q) (r:σ.n<=j.lo)
  (t:∀ n v,lk n σ.loc=some v->lk n j.loc=some v):SR c σ u α q:=by
 have p:=g.ge.pre;have I:Ge α N α q:=⟨afJ _,g.ge.keep,λL h=>.inl h,g.ge.tab⟩
 refine ⟨?_,R.aK,f.news,f.nodup,R.inj,λi o hi e=>?_,λa h=>f.all a (p.subset h),f.hi,R.wf,R.bD,R.len,R.low,R.bt,f.gens,f.os,f.aZ⟩
 ·refine Y f.fr λm F d=>?_
  refine Y R.fr λM P A=>?_
  refine (ay m F ?_);unfold NR at d A ⊢;rw[l]at d A ⊢;intro n v e;refine cj (d n v (t n v e)) ?_;clear d t;intro x k val y z B;refine cj (A n v e) ?_;clear A;intro Q S T V X C;exact (dy x k val y z (C.cut p B))
 ·refine aH (R.obj i o hi e) λZ lx q1 q2 D=>?_
  have bN:i<σ.n:=hi;have W:j.st.get i=some o:=(g.same i (aet hi r)).trans e;have l:i<j.n:=aet (aet hi r) f.low;refine aH (f.obj i o l W) ?_;clear f l W;intro a b E G H;have dv:i<α.length:=by rw[R.len];exact hi
  exact (bB a b (jd p E dv) G (D.cut p dv H))
noncomputable def y8:LS:=⟨[],[],lK,0,0,[]⟩
theorem SR.forget (b:c.comp=none)(R:SR c σ s α N):SR c y8 s [] N:=by
 refine⟨?_,λd d e=>(by exact aT e),R.news,R.nodup,.nil,λi o hi d=>absurd hi (aiP _),λa h=>(by cases h),R.hi,yp,afj _,rfl,aeD _,λd h=>(by cases h),R.gens,R.os,R.aZ⟩
 refine Y R.fr ?_;clear R;intro m F d;refine (ay m F ?_);unfold NR;rw [b];intro n v e;exact aT e
theorem kb{st:afD}{rest:List afD}{code:Sc}(h:bQ c A st code){kn:LS->Rs}{kr:Kv}(j:code σ kn kr=.ok .none){s:aep}{α N}(R:SR c σ s α N){Q:Flow->aep->Prop}{E:ael->aep->Prop} (k:∀ a i b f,kn a=.ok .none->SR c a i b f->Sts σ α N a b f->WP W A (aho rest c.env) Q E i) (l:∀ v a val i b f,kr v a=.ok .none->SR c a i b f->Sts σ α N a b f->VR W.kt b f val v->Q (.ret val) i):WP W A (aho (st::rest) c.env) Q E s:=
 agx (h σ kn kr _ j (by intro h;contradiction) s α N E R (λC e a i b f q=>by contradiction) _ (λa i b f q d g=>k a i b f q d g) λv a val i b f q d g m=>l v a val i b f q d g m)
noncomputable def kj(N:Led):Prop:=∀ P∈([813,146,392,302]:List aez),∃ c,(P,afn c)∈N
theorem kj.ge (g:Ge α N b a) (h:kj N):kj a:=λP c=>(aL (h P c) λd A=>g.tab P d A)
end
variable{prog:ae9}{w:afq}{sl:KX}{θ:Nat->Nat->O}{cond:Nat->Bool}{src:List (aez×List ael)}{os:afw}
theorem RL:(fG.scope.names.all λp=>cJ p.1)=true:=by kernel_rfl
theorem kl{c:Cx (jM prog w sl θ cond src os)}(f:ak c) (g:aP c d A) (h:c.comp=none) (a:c.scope=fG.scope){k:Call}(i:dw (jM prog w sl θ cond src os) d k):c9 (GL k d) c A:=
 ⟨f,g,i,λn x b e=>(we (aeK.mp RL (x,b) (aeV e)) b (by rw[a];exact e) (.inl rfl)),λj=>⟨by rw[a],h⟩,λx e=>by exact aT e⟩
end
section
variable{prog:ae9}{w:afq}{sl:KX}{θ:Nat->Nat->O}{cond:Nat->Bool}{src:List (aez×List ael)}{os:afw}
set_option backward.match.sparseCases true
noncomputable def Ct:Sc:=eQ (aG (aQ Aw (bg (J 2) (bg (J 1) aI)))) aF
noncomputable def kR (call:Call):Call:=λf w a k=>aex .no (kh yg Ct call 870 w a k) (vg 955 f)
noncomputable def adW (p:Nat->Pos) (k:Nat):List Stmt:=[.Try [.Expr (.Call (.Name "collect" (p 0)) [.Name "items" (p 1)] [] (p 2)) (p 3)]
 [.ExceptHandler (some (.Tuple [.Name "NameFault" (p 4),.Name "TypeFault" (p 5),.Name "TraitFault" (p 6),.Name "CoherenceFault" (p 7)] k (p 8))) (some "told") [.Return (some (.Call (.Name "isinstance" (p 9)) [.Name "told" (p 10),.Name "fault" (p 11)] [] (p 12))) (p 13)] (p 14)] [] [] (p 15),.Return (some (.Constant (.bool false) 0 (p 16))) (p 17)]
noncomputable def XN:List Pos:=[⟨nat_lit 923,nat_lit 8,nat_lit 923,nat_lit 15⟩,⟨nat_lit 923,nat_lit 16,nat_lit 923,nat_lit 21⟩,⟨nat_lit 923,nat_lit 8,nat_lit 923,nat_lit 22⟩,⟨nat_lit 923,nat_lit 8,nat_lit 923,nat_lit 22⟩,⟨nat_lit 924,nat_lit 12,nat_lit 924,nat_lit 21⟩,⟨nat_lit 924,nat_lit 23,nat_lit 924,nat_lit 32⟩,⟨nat_lit 924,nat_lit 34,nat_lit 924,nat_lit 44⟩,⟨nat_lit 924,nat_lit 46,nat_lit 924,nat_lit 60⟩,⟨nat_lit 924,nat_lit 11,nat_lit 924,nat_lit 61⟩,⟨nat_lit 925,nat_lit 15,nat_lit 925,nat_lit 25⟩,⟨nat_lit 925,nat_lit 26,nat_lit 925,nat_lit 30⟩,⟨nat_lit 925,nat_lit 32,nat_lit 925,nat_lit 37⟩,⟨nat_lit 925,nat_lit 15,nat_lit 925,nat_lit 38⟩,⟨nat_lit 925,nat_lit 8,nat_lit 925,nat_lit 38⟩,⟨nat_lit 924,nat_lit 4,nat_lit 925,nat_lit 38⟩,⟨nat_lit 922,nat_lit 4,nat_lit 925,nat_lit 38⟩,⟨nat_lit 926,nat_lit 11,nat_lit 926,nat_lit 16⟩,⟨nat_lit 926,nat_lit 4,nat_lit 926,nat_lit 16⟩]
noncomputable def adX(i:Nat):Pos:=(XN[i]?).getD ⟨0,0,0,0⟩
theorem Ue:tJ.body=adW adX 0:=by kernel_rfl
theorem EJ:tJ.scope.names=[(("items" :Str),NameKind.local),(("fault" :Str),.local),(("told" :Str),.local),(("collect" :Str),.globalImplicit),(("NameFault" :Str),.globalImplicit),(("TypeFault" :Str),.globalImplicit),(("TraitFault" :Str),.globalImplicit),(("CoherenceFault" :Str),.globalImplicit),(("isinstance" :Str),.globalImplicit)]:=by kernel_rfl
theorem pd{n:Nat}{k:afv}(h:([(("items" :Str),NameKind.local),(("fault" :Str),.local),(("told" :Str),.local),(("collect" :Str),.globalImplicit),(("NameFault" :Str),.globalImplicit),(("TypeFault" :Str),.globalImplicit),(("TraitFault" :Str),.globalImplicit),(("CoherenceFault" :Str),.globalImplicit),(("isinstance" :Str),.globalImplicit)]:List (Str×afv))[n]?=some (x,k)):tJ.scope.names[n]?=some (x,k):=by rw[EJ];exact h
theorem wb{c:Cx (jM prog w sl θ cond src os)}(a:ak c){C:aez}(h:cP.name x=some (.glob C)):KtsName sl.K x (.ref C):=by
 refine Y (a.g.name x (.glob C) h [] []) ?_;clear a h;intro val b d;rw [show val=.ref C from d.inv] at b;exact .inl b
theorem abh{c:Cx (jM prog w sl θ cond src os)}{A:ae6}{d:Nat}{call:Call}(r:dw (jM prog w sl θ cond src os) d call) (a:ak c) (b:aP c (d+1) A) (m:c.outer=[]){t:Str}{u:afC}{x:aez}{z:ael}(B:c.bF=ag2 t u c.L x z) (D:∃ o,c.base.get? af1=some o) (F:c.comp=none):jb c A (kR call):=by
 intro f G I k y h p s W N E R X M Z q i P qa Q;induction j:vg 955 f using aen with
 |false=>
  unfold kR at h;rw [j]at h;exact bO h p
 |true=>
  have h:kh yg Ct call 870 G I k=y:=by
   unfold kR at h;rw [j]at h;exact h
  rw [G2 j]at q;rw [show M=.ref 955 from q.inv];refine eZ (a.g.fn 955 tJ (by kernel_rfl)) λqual dD H=>?_
  have S:A.frames=some [c.bF]:=by rw [b.frames,m]
  have hd:=b.depth;have hu:=b.units;refine agR (Tu r a m B D F S (by omega) (by omega) b.handled H (hsc:=Ct) (Cs:=yg) (col:=870) (ic:=3) Ue (by kernel_rfl) (pd rfl) (pd rfl) (pd rfl) (pd rfl) (by kernel_rfl) (by kernel_rfl) (by kernel_rfl) (by kernel_rfl) (by rw [EJ];decide) ?_ ?_ R i P h p λv av bu s' bG N' e T g i=>Q _ _ _ _ _ _ e T g i)
  ·intro c A a hn l;exact jZ (vN (vF a (n:=8) (v:=.builtin "isinstance") (by kernel_rfl) (by rw [l];exact pd rfl) (by kernel_rfl) (by kernel_rfl) (by kernel_rfl) (by kernel_rfl) Ez (jR (by kernel_rfl) (kS a (by rw [l];exact pd rfl) (by kernel_rfl)) (jR (by kernel_rfl) (kS a (by rw [l];exact pd rfl) (by kernel_rfl)) nM)))) qp
  ·intro C V qb loose mg mb L;refine test_tup4 (c1:=.ref 52) (c2:=.ref 76) (c3:=.ref 88) (c4:=.ref 100) (wb a (by kernel_rfl)) (wb a (by kernel_rfl)) (wb a (by kernel_rfl)) (wb a (by kernel_rfl)) ?_ (by kernel_rfl) (by kernel_rfl) (by kernel_rfl) (by kernel_rfl) (by kernel_rfl) (by kernel_rfl) (by kernel_rfl) (by kernel_rfl) (by kernel_rfl)
   exact beq_iff_eq.mp (aeK.mp (mo sl).exm C (nQ V))
set_option backward.match.sparseCases false
end
section
noncomputable def kM (r t lo a:Bool):Call:=oF r t (XF r t (rtQ r t lo a)) 25
noncomputable def kP:Call:=jl cR cU cQ 25
noncomputable def ib:Kv:=λa a=>.no
noncomputable def Cu(o:Option O)(i:Nat):Bool:=aD false o λv=>jg false v λj=>aew j i
theorem Gj (h:Cu o i=true):o=some (.ref i):=by
 refine Y (aR h nofun) ?_;clear h;intro v a h;subst a;refine Y (i3 h nofun) ?_;clear h;intro j a h;subst a;rw[aem h]
noncomputable def DN:LS->Rs:=λa=>aN .no (and (aeZ (nat_lit 8) a.lo) (and (Cu (lk (nat_lit 2) a.loc) (nat_lit 7)) (Cu (lk (nat_lit 1) a.loc) (nat_lit 4)))) (.ok .none)
theorem XO (h:DN σ=.ok .none):8<=σ.lo/\∀ n v,lk n lG=some v->lk n σ.loc=some v:=by
 refine ae (aS h nofun) ?_;clear h;intro a g;refine ae (aei.mp a) ?_;clear a;intro c b;refine ae (aei.mp b) ?_;clear b;intro d f;refine⟨aer c,λn v e=>?_⟩
 rcases sT e with⟨rfl,rfl⟩|⟨rfl,rfl⟩
 ·exact Gj d
 ·exact Gj f
noncomputable def OW (a:List (Str×O)):LS:=⟨lG,[],rY a,8,8,[]⟩
noncomputable def oq (k:Call) (a:List (Str×O)):Prop:=L3 k (OW a) (λb=>L4 k b DN ib) ib=.ok .none
noncomputable def wc(n:Nat):O×Nat:=match n with
 |0=>(.str xT,52)
 |1=>(.str xU,52)
 |2=>(.str xV,76)
 |3=>(.str xW,52)
 |4=>(.str xX,88)
 |5=>(.str xY,100)
 |6=>(.str x9,52)
 |_=>(.str Cd,52)
noncomputable def nj (n:Nat):O:=.tup [(wc n).1,.glob (wc n).2]
noncomputable def VZ:O:=.hl [nj 0,nj 1,nj 2,nj 3,nj 4,nj 5,nj 6,nj 7]
noncomputable def gq (n:Nat):List (Nat×O):=(6,.glob (wc n).2)::(5,(wc n).1)::(4,VZ)::lG
theorem d56 (a:List (Str×O)) (kn:LS->Rs) (kr:Kv):L5 kP (eH lG a) (λσ=>L6 kP σ kn kr) kr=join (kn (eH (gq 7) a)) (join (kn (eH (gq 6) a)) (join (kn (eH (gq 5) a)) (join (kn (eH (gq 4) a)) (join (kn (eH (gq 3) a)) (join (kn (eH (gq 2) a)) (join (kn (eH (gq 1) a)) (kn (eH (gq 0) a)))))))):=by kernel_rfl
noncomputable def oH (n:Nat) (k:Call) (a:List (Str×O)):Prop:=y7 (kR k) k (eH (gq n) a) (λb=>.ok .none) ib=.ok .none
noncomputable def OX:Kv:=λv a=>i9 .no v λb=>aN .no b (.ok .none)
theorem XP:L8 kP y8 (λσ=>L9 kP σ (λσ=>OV kP σ (λa=>.no) OX) ib) ib=.ok .none:=by kernel_rfl
theorem XQ (h:OX v σ=.ok .none):v=.bool true:=by
 refine Y (pT h nofun) ?_;clear h;intro b a h;subst a;refine ae (aS h nofun) ?_;clear h;intro a c;subst a;rfl
theorem abi (k:Call) (kn:LS->Rs) (kr:Kv):L2 k ia kn kr=k (.glob 916) [.ref 4] ia (λv σ=>kn ⟨(2,v)::σ.loc,σ.aK,σ.st,σ.n,σ.lo,σ.mark⟩):=by kernel_rfl
variable{prog:ae9}{w:afq}{sl:KX}{tok:Nat->Fm}{bl:Nat->Bool}{dm:Dm}{cond:Nat->Bool}{src:List (aez×List ael)}{os:afw}
structure Drawn where
 r:Bool
 t:Bool
 fs:List Fm
 s1:Bool
 s2:Bool
 ins:List Fm
 lo:Bool
 o:Fm
 cn:Fm
 sf:Nat
 df:Bool
structure Drawn.OK(D:Drawn):Prop where
 h1:D.fs.length<=2
 h2:∀ x∈D.fs,x∈bE D.r D.t 2
 h3:D.ins.length<=2
 h4:∀ x∈D.ins,x∈bE D.r D.t 2
 h5:D.o∈bE D.r D.t 1
 h6:D.cn∈gI
 h7:D.sf<=2
noncomputable def Drawn.σ (D:Drawn):LS:=M8 D.r D.t (rX D.r D.t (dc D.fs) (.hl [.bool D.s1,.bool D.s2]) (dc D.ins) (.bool D.lo) (dz D.o) (dz D.cn) (.str (iY D.sf)) (.bool D.df))
section
variable{c:Cx (ba prog w sl tok bl dm cond src os)}{A:ae6}
open Classical in
noncomputable def rZ (p : Prop) : Rs := eG p (.ok .none)
theorem AJ{p:Prop}(h:rZ p=.ok .none):p:=(eg h nofun).1
theorem AK{p:Prop}(h:p):rZ p=.ok .none:=eC h
theorem QE (a:dw (ba prog w sl tok bl dm cond src os) d k) (i:∀ K,AH K->k (.glob 916) [.ref 4] ia K=.ok .none) (j:ak c) (l:c.comp=none) (m:aP c d A) (n:c.scope=fG.scope) (R:SR c ia s α N){Q:Flow->aep->Prop}{E:ael->aep->Prop} (h:∀ D:Drawn,D.OK->∀ b e f,SR c D.σ b e f->Ge α N e f->WP (ba prog w sl tok bl dm cond src os) A (aho rest c.env) Q E b):WP (ba prog w sl tok bl dm cond src os) A (aho (sL 1::rest) c.env) Q E s:=by
 refine kb (lj2 gx c A (kl j m l n a)) (kn:=λg=>rZ (∃ D:Drawn,D.OK/\g=D.σ)) (kr:=ib) ((abi k _ ib).trans (i _ λr t p s1 s2 q lo o u x y z B C F G H I=>AK (ay ⟨r,t,p,s1,s2,q,lo,o,u,x,y⟩ ⟨z,B,C,F,G,H,I⟩ rfl))) R (λg b e f a L M=>?_) (λv g val b e f a=>nomatch a)
 refine Y (AJ a) ?_;clear a;intro D P S;subst S;exact h D P b e f L M.ge
theorem QF (a:dw (ba prog w sl tok bl dm cond src os) d k) (p:oq k g) (i:ak c) (f:c.comp=none) (j:aP c d A) (l:c.scope=fG.scope) (R:SR c (eH lG g) s α N){Q:Flow->aep->Prop}{E:ael->aep->Prop} (h:∀ b e,SR c (eH lG g) b α e->(∀ P q,(P,afn q)∈N->∃ r,(P,afn r)∈e)->WP (ba prog w sl tok bl dm cond src os) A (aho rest c.env) Q E b):WP (ba prog w sl tok bl dm cond src os) A (aho (sL 2::sL 3::rest) c.env) Q E s:=by
 refine kb (lj3 gx c A (kl i j f l a)) p ⟨R.fr,R.aK,R.news,R.nodup,R.inj,R.obj,R.all,R.hi,R.wf,R.bD,R.len,aeD _,R.bt,R.gens,R.os,R.aZ⟩ (λG H I L t u m=>?_) (λv x val b y e a=>nomatch a)
 refine kb (lj4 gx c A (kl i j f l a)) t u (λM z S B n C o=>?_) (λv x val b y e a=>nomatch a)
 refine ae (XO n) ?_;clear n;intro D F;exact h z B (SR.Ud f R C (m.trans o) D F) (m.trans o).ge.tab
theorem P0 (a:dw (ba prog w sl tok bl dm cond src os) d kP) (k:ak c) (e:c.comp=none) (l:aP c d A) (o:c.scope=fG.scope) (R:SR c (eH lG b) s α N){Q:Flow->aep->Prop}{E:ael->aep->Prop} (h:∀ n,n<8->∀ f g i,SR c (eH (gq n) b) f g i->Ge α N g i->WP (ba prog w sl tok bl dm cond src os) A (aho rest c.env) Q E f):WP (ba prog w sl tok bl dm cond src os) A (aho (sL 4::sL 5::rest) c.env) Q E s:=by
 have y:∀ n,aeZ (n+1) 8=true->rZ (∃ m,m<8/\eH (gq n) b=eH (gq m) b)=.ok .none:=λn e=>AK (ay n (aer e) rfl)
 refine kb (lj5 gx c A (kl k l e o a)) ((d56 b (λj=>rZ (∃ n,n<8/\j=eH (gq n) b)) ib).trans (jj (y 7 rfl) (jj (y 6 rfl) (jj (y 5 rfl) (jj (y 4 rfl) (jj (y 3 rfl) (jj (y 2 rfl) (jj (y 1 rfl) (y 0 rfl))))))))) R (λG H I L q r t=>?_) (λv j val f g i a=>nomatch a)
 refine kb (lj6 gx c A (kl k l e o a)) q r (λM u x z p B C=>?_) (λv j val f g i a=>nomatch a)
 refine Y (AJ p) ?_;clear p;intro n D F;subst F;exact h n D u x z B (t.trans C).ge
theorem RM (a:dw (ba prog w sl tok bl dm cond src os) d k) (j:oH n k l) (g:ak c) (b:c.comp=none) (i:aP c (d+1) A) (m:c.scope=fG.scope) (p:c.outer=[]) (q:c.bF=ag2 C D c.L F G) (r:∃ o,c.base.get? af1=some o) (R:SR c (eH (gq n) l) s α N){Q:Flow->aep->Prop}{E:ael->aep->Prop} (h:∀ e f,SR c y8 e [] f->(∀ P t,(P,afn t)∈N->∃ u,(P,afn u)∈f)->WP (ba prog w sl tok bl dm cond src os) A (aho rest c.env) Q E e):WP (ba prog w sl tok bl dm cond src os) A (aho (sL 6::rest) c.env) Q E s:=
 kb (lj7 gx c A (kl g (i.less (af7 d)) b m a) (kR k) (abh a g i p q r b)) j R (λH x I y L z B=>h x y (z.forget b) B.ge.tab) (λv M val e S f a=>nomatch a)
theorem RO (a:dw (ba prog w sl tok bl dm cond src os) d kP) (i:ak c) (j:c.comp=none) (k:aP c d A) (l:c.scope=fG.scope) (R:SR c y8 s [] N){Q:Flow->aep->Prop}{E:ael->aep->Prop} (h:∀ b e f g,SR c f b g e->(∀ P n,(P,afn n)∈N->∃ o,(P,afn o)∈e)->Q (.ret (.bool true)) b):WP (ba prog w sl tok bl dm cond src os) A (aho [sL 7,sL 8,sL 9] c.env) Q E s:=by
 refine kb (lj8 gx c A (kl i k j l a)) XP R (λH I L M p q r=>?_) (λv f val b g e a=>nomatch a)
 refine kb (lj9 gx c A (kl i k j l a)) p q (λS T V W t u x=>?_) (λv f val b g e a=>nomatch a)
 refine kb (adU gx c A (kl i k j l a)) t u (λf b g e a=>nomatch a) (λv y val z B C D F G m=>?_)
 rw [XQ D] at m;rw [show val=.bool true from m.inv];exact h z C y B F (r.trans (x.trans G)).ge.tab
end
noncomputable abbrev W0 (prog:ae9) (w:afq) (sl:KX) (src:List (aez×List ael)) (os:afw):Wd:=ba prog w sl Cq (λa=>true) ⟨false,false,0,false,0⟩ (λa=>false) src os
theorem kj.to (h:kj N) (t:∀ P a,(P,afn a)∈N->∃ b,(P,afn b)∈c):kj c:=λP w=>(aL (h P w) λa d=>t P a d)
theorem XS (y:∀ r t lo e,oq (kM r t lo e) (gc r t lo e)) (z:∀ n,n<8->∀ r t lo e,oH n (kM r t lo e) (gc r t lo e)) {c:Cx (W0 prog w sl src os)}(p:ak c) (b:c.comp=none) (q:aP c 27 A) (f:c.scope=fG.scope) (B:c.outer=[]) (C:c.bF=ag2 NY lcs c.L NZ Me) (F:∃ o,c.base.get? af1=some o) {N:Led}(R:SR c ia s α N) (G:kj N){Q:Flow->aep->Prop}{E:ael->aep->Prop} (H:∀ g u,agM c.h₀ c.L g.heap (u++c.ax)->kj u->(∃ m,Fr c.h₀ c.L g.heap m)->g.gens=#[]->g.os=os->Q (.ret (.bool true)) g):WP (W0 prog w sl src os) A (aho [sL 1,sL 2,sL 3,sL 4,sL 5,sL 6,sL 7,sL 8,sL 9] c.env) Q E s:=by
 have i:∀ n,aeZ n 27=true->n<=27:=λn=>aer
 refine QE (d:=20) (T4 mM mi aa4 20) (λK h=>draws h) p b (q.less (i 20 rfl)) f R λD a dn cL bZ I L=>?_
 have HT:=T6 a.h2 a.h4 a.h5 a.h6;have M:=VY b a.h1 a.h2 a.h3 a.h4 a.h5 a.h6 I;have j:ak (c.to (mS prog w sl D.r D.t D.fs D.s1 D.s2 D.ins D.lo D.o D.cn D.sf src os)):=p.toT HT;have k:aP (c.to (mS prog w sl D.r D.t D.fs D.s1 D.s2 D.ins D.lo D.o D.cn D.sf src os)) 27 A:=q.toT;have v:dw (mS prog w sl D.r D.t D.fs D.s1 D.s2 D.ins D.lo D.o D.cn D.sf src os) 25 (kM D.r D.t D.lo D.df):=TX HT (abd HT a.h1 a.h7) 25;have x:dw (mS prog w sl D.r D.t D.fs D.s1 D.s2 D.ins D.lo D.o D.cn D.sf src os) 25 kP:=zT mM mi 25;refine QF v (y D.r D.t D.lo D.df) j b (k.less (i 25 rfl)) f M λeb dK P S=>?_
 refine P0 x j b (k.less (i 25 rfl)) f P λn T dW jk fY V W=>?_
 refine RM v (z n T D.r D.t D.lo D.df) j b (k.less (i 26 rfl)) f B C F V λrg By X Z=>?_
 refine RO x j b (k.less (i 25 rfl)) f X λke mZ mG wG l adY=>?_
 refine Y l.fr λm qa u_=>?_
 exact H ke mZ l.news ((((G.ge L).to S).ge W).to Z |>.to adY) ⟨m,qa⟩ l.gens l.os
end
section
variable{W:Wd}{c:Cx W}{A:ae6}{d:Nat}
noncomputable def abj (a:aez) (n:Int):Prim:=λl c k=>hU l λv=>eG (v=.glob a) (k (.int n) c)
theorem SR.base (b:ak c)(R:SR c σ s α N)(h:c.base.IsList a f):s.heap.IsList a f:=by
 refine Y R.fr λm F d=>?_
 refine Y h λo e r=>?_
 exact⟨o,F.keep _ _ (b.below.stays _ _ e),r⟩
theorem Ug (e:ak c) (f:c.base.IsList a b) (g:(b.size:Int)<2^63):dR c A (.builtin "len") (abj a b.size):=by
 intro l o k y h d s p N E R q r W i Q j;refine iw W i h d λv w m h=>?_
 refine ae (eg h d) ?_;clear h;intro n h;subst n;rw[show w=.ref a from m.inv];exact len_list (R.base e f) g (j _ _ _ _ _ _ h R.toks .refl (.int _ _))
noncomputable def abk (x y:Int):Prim:=λl c k=>eG (l=[.int x,.int y]) (k (.int (if y>x then y else x)) c)
theorem Uh (f:ak c) (g:aP c d A):dR c A (.builtin "max") (abk x y):=by
 intro l o k p h i s r N E R z B a j Q m;refine ae (eg h i) ?_;clear h;intro W h;subst W;refine aH (jW a j) ?_;clear a;intro v w W b e;subst W;refine aL b.inv ?_;clear b;intro t W;subst W;refine aL e.inv ?_;clear e;intro u W;subst W;refine max_two_ints g.handled λC D n=>?_
 refine m _ _ _ _ _ _ h (R.grow f n) .refl ?_;by_cases q:y>x
 ·rw[if_pos q,if_pos q];exact .int _ _
 ·rw[if_neg q,if_neg q];exact .int _ _
theorem Cv (b:ak c){p:Prim}{x:Str}{f:Pos}{n:Nat}{a}{pos:Pos}{σ:LS}{i:Int}(g:args.any aeH=false) (h:c.scope.names[n]?=some (x,.globalImplicit)) (j:cJ x=true) (m:W.G.boot x=true) (o:ah4 x=some v) (q:noRef v=true)
 (r:dR c A v p) (s:gL c A args a) (e:∀ k,a σ (λl σ=>p l σ k)=k (.int i) σ):aE c A (.Call (.Name x f) args [] pos) (br σ i):=ic (vF b g h j m o q r s) e
theorem abl (h:aE c A x (br σ i)):aE c A (.UnaryOp .USub x pos) (br σ (-i)):=ic (FW h) λk=>by
 show br σ i σ _=_;rw[fB];rfl
theorem XT (e:aE c A a (br σ x)) (f:aE c A b (br σ y)):aE c A (.BinOp a .Sub b pos) (br σ (x-y)):=ic (Fi e f) λk=>by
 show br σ x σ _=_;rw[fB];show br σ y σ _=_;rw[fB];rfl
theorem abm (e:ak c) (f:0<=y) (g:y<=1000000) (i:x.natAbs<2^64) (j:aE c A a (br σ x)) (k:aE c A b (br σ y)):aE c A (.BinOp a .Pow b pos) (br σ (x^y.toNat)):=tI e (op:=.Pow) (λd d h=>pow_int_small f g i h) j k
theorem Na (e:ak c) (f:aP c d A) (g:decide (x<y)=t) (h:afH .Lt b=false) (i:aE c A a (br σ x)) (j:aE c A b (br σ y)):dB c A (.Compare a [.Lt] [b] pos) (iJ σ t):=
 g▸tc (zW e f e.g.tok h i j) λk=>by show br σ x σ _=_;rw [fB];show br σ y σ _=_;rw [fB];rfl
theorem XU:bg a r σ k=a σ λv σ=>r σ λl σ=>k (v::l) σ:=rfl
theorem xg:bg (br σ x) r σ k=r σ λl σ=>k (.int x::l) σ:=fB
theorem XW:c6 op (br σ x) (br σ y) σ k=aD .no (xm op σ.st (.int x) (.int y)) λt=>k (.bool t) σ:=fB.trans fB
theorem abn (e:ak c) (f:aP c d A){n:Nat}{g:Pos}{a b:aeM}{p pos:Pos}{σ:LS}{x y:Int}(h:c.scope.names[n]?=some (("int" :Str),.globalImplicit)) (i:W.G.boot "int" =true) (j:afH .GtE b=false) (l:aE c A a (br σ x)) (m:aE c A b (br σ y)):aE c A (.Call (.Name "int" g) [.Compare a [.GtE] [b] p] [] pos) (br σ (if x ≥ y then 1 else 0)):=
 Cv e rfl h (by kernel_rfl) i (v:=.type "int") (by kernel_rfl) (by kernel_rfl) E2 (jR rfl (FF e f e.g.tok j l m) nM) λk=>by
  rw [XU,XW];show wt [.bool (decide (x ≥ y))] σ k=_;by_cases q:x ≥ y
  ·rw [decide_eq_true q,if_pos q];rfl
  ·rw [decide_eq_false q,if_neg q];rfl
theorem abo (f:ak c) (z:qr e=true) (B:c.scope.names[n]?=some (x,.local)) (C:cJ x=true) (h:lk n σ.loc=some (.glob a)) (l:c.base.IsList a D) (F:0<=j) (G:j<2^63) (H:D[j.toNat]?=some (.int v u)) (I:aE c A e (br σ j)):aE c A (.Subscript (.Name x p) e pos) (br σ v):=by
 intro m k y q W s L N E R o Q M;refine ae (eg q W) ?_;clear q;intro d q;subst d;refine Subscript_ (kS f B C m (λg b=>eG (g=.glob a/\b=m) y) y (by rw[nP,h];exact eC ⟨rfl,rfl⟩) W s L N E R o _ λZ b P dn cL bZ h S r T=>?_)
 refine ae (eg h W) λd V=>?_;obtain ⟨rfl,rfl⟩:=d
 refine I b (λg t=>eG (g=.int j/\t=b) y) y (fB.trans (eC ⟨rfl,rfl⟩)) W _ _ _ _ S (o.step r.kp) _ λvb t rh eb ek dK h i X w=>?_
 refine ae (eg h W) λd V=>?_;obtain ⟨rfl,rfl⟩:=d
 rw[show P=.ref a from T.inv];refine aL w.inv ?_;clear w;intro qa d;subst d;exact aiZ (i.base f l).typeIs slot_list_getitem.lookup (wpAny_getItem_list (i.base f l) F G H (M _ _ _ _ _ _ q i (r.trans X) (.int _ _))) (vy z _ _)
theorem ifY (b:dB c A t (iJ σ true)) (e:cA c A a f) (g:∀ kn kr,f σ kn kr=kn σ₂):bQ c A (.If t a [] pos) (fF σ σ₂):=
 sc (sJ b e qp) λkn kr=>by
  show iJ σ true σ _=_;rw [show ∀ k,iJ σ true σ k=k true σ from λk=>eC rfl]
  exact g kn kr
noncomputable def LS.asg(σ:LS)(n:Nat)(v:O):LS:=⟨(n,v)::σ.loc,σ.aK,σ.st,σ.n,σ.lo,σ.mark⟩
noncomputable def LS.at_ (σ:LS)(l:List (Nat×O)):LS:=⟨l,σ.aK,σ.st,σ.n,σ.lo,σ.mark⟩
theorem G9{x:Int}:0<=x.fmod 2147483629+7919*0*0+31*0+17/\x.fmod 2147483629+7919*0*0+31*0+17<2147483648:=by
 have h:=l3 (x:=x) (m:=2147483629) (by decide)
 refine⟨ajP (ajP (ajP h.1 (by decide)) (by decide)) (by decide),?_⟩
 exact Int.lt_of_lt_of_le (aiR (aiR (aiR h.2 _) _) _) (by decide)
theorem y9{α:Type}{v:α}{l:List (Nat×α)}:lk n ((n,v)::l)=some v:=eD.trans (if_pos rfl)
theorem vk{α:Type}{v:α}{l:List (Nat×α)}(h:aew n m=false):lk n ((m,v)::l)=lk n l:=eD.trans (if_neg (ain h))
noncomputable def sP (i:Nat):Stmt:=(jm.body[i]?).getD (.Pass ⟨0,0,0,0⟩)
theorem RP:jm.body=[sP 0,sP 1,sP 2,sP 3,sP 4]:=by kernel_rfl
theorem Ui (b:ak c) (s:aP c d A) (t:c.comp=none) (e:c.scope=jm.scope) (z:∀ x,x∈(["int", "len", "max"]:List Str)->W.G.boot x=true){a:aez}{vs:List ael}{ns:List Int}(D:c.base.IsList a vs.toArray) (E:IntsAre vs ns) (V:vs.length<=63){σ:LS}(X:lk 0 σ.loc=some (.glob a)) (Z:lk 1 σ.loc=some (.int 0)) (iG:σ.room=true):
  ∃ l x y code,cA c A jm.body code/\(∀ kn kr,code σ kn kr=kr (.ref σ.n) ((σ.at_ l).push (.list [.int x,.int y])))/\0<=y/\y<2147483648:=by
 have F:c.scope.names[(0:Nat)]?=some (("script" :Str),NameKind.local):=by rw [e];kernel_rfl
 have k:c.scope.names[(1:Nat)]?=some (("k" :Str),NameKind.local):=by rw [e];kernel_rfl
 have u:c.scope.names[(2:Nat)]?=some (("cell" :Str),NameKind.local):=by rw [e];kernel_rfl
 have w:c.scope.names[(3:Nat)]?=some (("big" :Str),NameKind.local):=by rw [e];kernel_rfl
 have G:c.scope.names[(4:Nat)]?=some (("mixed" :Str),NameKind.local):=by rw [e];kernel_rfl
 have n5:c.scope.names[(5:Nat)]?=some (("len" :Str),ae5):=by rw [e];kernel_rfl
 have n6:c.scope.names[(6:Nat)]?=some (("max" :Str),ae5):=by rw [e];kernel_rfl
 have o:c.scope.names[(7:Nat)]?=some (("int" :Str),ae5):=by rw [e];kernel_rfl
 have H:cJ "script" =true:=by kernel_rfl
 have n:cJ "k" =true:=by kernel_rfl
 have I:cJ "cell" =true:=by kernel_rfl
 have B:cJ "big" =true:=by kernel_rfl
 have p4:cJ "mixed" =true:=by kernel_rfl
 have r:=z "int" (.head _);have bl:=z "len" (.tail _ (.head _));have bm:=z "max" (.tail _ (.tail _ (.head _)));have ed:(vs.toArray.size:Int)<2^63:=Int.lt_of_le_of_lt (Int.ofNat_le.mpr (aeE (agh afi) V)) (by decide)
 have cut:∃ f l,bQ c A (sP 1) (fF (σ.asg 2 (.int 0)) (σ.at_ l))/\lk 1 l=some (.int 0)/\lk 2 l=some (.int f):=by
  have L:lk 0 (σ.asg 2 (.int 0)).loc=some (.glob a):=(vk rfl).trans X;have h:lk 1 (σ.asg 2 (.int 0)).loc=some (.int 0):=(vk rfl).trans Z;have N:∀ {P p Q},aE c A (.Call (.Name "len" P) [.Name "script" p] [] Q) (br (σ.asg 2 (.int 0)) (vs.toArray.size:Int)):=fun{P p Q}=>Cv b rfl n5 (by kernel_rfl) bl (v:=.builtin "len") (by kernel_rfl) (by kernel_rfl) (Ug b D ed) (jR rfl (kS b F H) nM) λqa=>by
   show J 0 _ _=_;rw [nP,L];exact eC rfl
  induction E using IntsAre.casesOn with
  |nil=>exact⟨0,_,N5 (Na b s (by decide) (by kernel_rfl) (f6 b k n h) N) qz,h,y9⟩
  |cons i qb E=>
   refine⟨i,(2,.int i)::(σ.asg 2 (.int 0)).loc,ifY (Na b s (decide_eq_true (aiQ.mpr (Nat.succ_pos _))) (by kernel_rfl) (f6 b k n h) N) (jZ (ug b t (by kernel_rfl) u (abo (j:=0) b rfl F H L D (Int.le_refl _) (by decide) rfl (f6 b k n h))) qp) (λkn kr=>?_),(vk rfl).trans h,y9⟩
   show fF _ _ _ _ _=_;rw [pP];rfl
 obtain⟨f,l,h1,h,R⟩:=cut;let x:Int:=if -1-f>f then -1-f else f;let M:Int:=((x.fmod 2147483629+7919*0*0+31*0+17)*48271).fmod 2147483647;let g:Int:=if x ≥ 10^(18:Int).toNat then 1 else 0;have hx:bQ c A (sP 2) (fF (σ.at_ l) ((σ.at_ l).asg 3 (.int x))):=ug b t (by kernel_rfl) w (Cv b rfl n6 (by kernel_rfl) bm (v:=.builtin "max") (by kernel_rfl) (by kernel_rfl) (Uh b s (x:=f) (y:=-1-f)) (jR rfl (mK b rfl o r (f6 b u I R)) (jR rfl (mK b rfl o r (XT (abl fP) (f6 b u I R))) nM)) λqa=>by
  rw [xg,xg];exact eC rfl)
 have S:lk 3 ((σ.at_ l).asg 3 (.int x)).loc=some (.int x):=y9;have C:lk 1 ((σ.at_ l).asg 3 (.int x)).loc=some (.int 0):=(vk rfl).trans h;have hM:bQ c A (sP 3) (fF ((σ.at_ l).asg 3 (.int x)) (((σ.at_ l).asg 3 (.int x)).asg 4 (.int M))):=ug b t (by kernel_rfl) G (qS b (by decide) (mK b rfl o r (oz b (qX G9.1 G9.2) (w7 b (w7 b (w7 b (qS b (by decide) (mK b rfl o r (f6 b w B S)) fP) (oz b (qX (by decide) (by decide)) (oz b (qX (by decide) (by decide)) fP (f6 b k n C)) (f6 b k n C))) (oz b (qX (by decide) (by decide)) fP (f6 b k n C))) fP) fP)) fP)
 have T:lk 3 (((σ.at_ l).asg 3 (.int x)).asg 4 (.int M)).loc=some (.int x):=(vk rfl).trans S;have k6:lk 4 (((σ.at_ l).asg 3 (.int x)).asg 4 (.int M)).loc=some (.int M):=y9;have hg:IntMulOk x g:=.of_right (by
  show Builtin.Int.intBits (if x ≥ 10^(18:Int).toNat then 1 else 0)<=64;by_cases q:x ≥ 10^(18:Int).toNat
  ·rw [if_pos q];exact intBits_le_64 (by decide) (by decide)
  ·rw [if_neg q];exact intBits_le_64 (by decide) (by decide))
 have hR:bQ c A (sP 4) _:=vN (ET b (jR rfl (oz b hg (f6 b w B T) (abn b s o r (by kernel_rfl) (f6 b w B T) (abm b (by decide) (by decide) (by decide) fP fP))) (jR rfl (f6 b G p4 k6) nM)))
 have h0:bQ c A (sP 0) (fF σ (σ.asg 2 (.int 0))):=ug b t (by kernel_rfl) u fP
 refine⟨(4,.int M)::(3,.int x)::l,x*g,M,_,RP▸jZ h0 (jZ h1 (jZ hx (jZ hM (jZ hR qp)))),λkn kr=>?_,(l3 (by decide)).1,aiL (l3 (m:=2147483647) (by decide)).2 (by decide)⟩
 show fF _ _ _ _ _=_;rw [pP];show fF _ _ _ _ _=_;rw [pP];show fF _ _ _ _ _=_;rw [pP];show fF _ _ _ _ _=_;rw [pP];show bg (br (((σ.at_ l).asg 3 (.int x)).asg 4 (.int M)) (x*g)) (bg (br (((σ.at_ l).asg 3 (.int x)).asg 4 (.int M)) M) aI) _ (λl σ=>aN .no (and (short l) σ.room) (kr (.ref σ.n) (σ.push (.list l))))=_
 rw [xg,xg];show aN Rs.no (and true σ.room) _=_;rw [iG];rfl
noncomputable def Bk (a:aez):Sc:=λc A d=>eG (lk 0 c.loc=some (.glob a)/\lk 1 c.loc=some (.int 0)/\c.room=true) (d (.ref c.n) (c.bare.push (.src 0)))
theorem V0 (L:ak c) (M:aP c d A) (w:c.comp=none) (P:c.scope=jm.scope) (S:∀ x,x∈(["int","len","max"]:List Str)->W.G.boot x=true) (T:c.base.IsList a vs.toArray) (m:IntsAre vs ns) (V:vs.length<=63):cA c A jm.body (Bk a):=by
 intro b kn kr y h p s X N E R Z Q cX cY;refine ae (eg h p) ?_;clear h;intro z h;refine bU z ?_;clear z;intro l0 l1 B;obtain ⟨qa,x,C,code,uf,he,y0,y1⟩:=Ui L M w P S T m V l0 l1 B;have r:b.n<1024:=aer B;have u:∀ {v:AO}{j},j<1024->(Tr.set v 10 b.st b.n).get j=if j=b.n then some v else b.st.get j:=λk=>get_set R.wf r k
 have t:∀ {v:AO}{j},j<b.n->(Tr.set v 10 b.st b.n).get j=b.st.get j:=λk=>(u (agt k r)).trans (if_neg (aeN k))
 refine uf b (λn=>.no) (λv D=>eG (v=.ref b.n/\D=(b.at_ qa).push (.list [.int x,.int C])) y) y ((he _ _).trans (eC ⟨rfl,rfl⟩)) p s X N E R Z Q (λn n n n q=>bO q p) λv D val s' bG N' q f g hv=>?_
 refine ae (eg q p) λl n=>?_;obtain ⟨rfl,rfl⟩:=l
 refine cY _ (b.bare.push (.src 0)) _ s' bG N' h ⟨?_,f.aK,f.news,f.nodup,f.inj,λj o k e=>?_,f.all,f.hi,R.wf.set,f.bD,f.len,f.low,f.bt,f.gens,f.os,f.aZ⟩ ⟨g.ge,g.lo,λi m=>t (aet m R.low),g.n,g.mark,g.obs,λi m=>⟨t (R.bt i m),(g.bf i m).2⟩⟩ hv
 ·refine Y f.fr λqb qc n=>?_
  exact (ay qb qc (by unfold NR;rw [w];intro qd v e;exact aT e))
 ·have e:(Tr.set (.src 0) 10 b.st b.n).get j=some o:=e;have k:j<b.n+1:=k;by_cases q:j=b.n
  ·subst q;have l:=aej (((u r).trans (if_pos rfl)).symm.trans e);clear e;subst o;refine aH (f.obj b.n (.list [.int x,.int C]) k ((u r).trans (if_pos rfl))) λa2 o2 z1 z2 z3=>?_
   refine be z3.inv ?_;intro uQ n2 l F;subst l;refine aH (jW F rfl) ?_;clear F;intro w1 w2 l G H;subst l;refine aL G.inv ?_;clear G;intro u1 l;subst l;refine aL H.inv ?_;clear H;intro u2 l;subst l;exact (bB a2 _ z1 z2 (.src y0 y1))
  ·have I:j<b.n:=ai8 (ail k) q;refine f.obj j o k ?_;show (Tr.set _ 10 b.st b.n).get j=_;rw [t I,←e,t I]
noncomputable def Bl(a:aez):aM:=⟨2,[],[true,true],[],λc=>Bk a⟩
noncomputable def xh (a:aez):Call:=λf d A k=>eG (f=.glob 877) (jr (Bl a) (λc c c c=>.no) d A k)
section
variable{prog:ae9}{w:afq}{sl:KX}{os:afw}{a:aez}{vs:List ael}{ns:List Int}
theorem Uj (o:IntsAre vs ns) (p:vs.length<=63):dw (W0 prog w sl [(a,vs)] os) 1 (xh a):=by
 intro c A j i f L M k y h l s P N E R q r S t m u Q z;refine ae (eg h l) ?_;clear h;intro B h;subst B;rw [show r=.ref 877 from t.inv];refine eZ (j.g.fn 877 jm (show cP.fn 877=some jm by kernel_rfl)) λT V H=>?_
 have b:k8 (W0 prog w sl [(a,vs)] os) jm ⟨2,[],[true,true],[],λW=>g0⟩:=wX rfl (by kernel_rfl) λk d=>Mh
 have C:k8 (W0 prog w sl [(a,vs)] os) jm (Bl a):=⟨b.n,b.gV,b.Bu,b.LC,b.ra,b.Bv,b.cells,λcall d X c A j i D F W=>V0 j i D F (λx n=>by
  rcases n with _|⟨_,_|⟨_,_|⟨_,n⟩⟩⟩
  ·kernel_rfl
  ·kernel_rfl
  ·kernel_rfl
  ·cases n) (j.nq _ (.head _)) o p⟩
 exact agR (vQ (d':=0) (λW W W W W W W W W h l=>bO h l) j i.frames (mv i.depth 1 (by decide)) (mv i.units 3 (by decide)) i.handled H C rfl R m u h l q (λv Z bu G bG N' e I g m=>z _ _ _ _ _ _ e I g m) λe G x=>x)
noncomputable def L1 (k:Call):Sc:=aC (aq 1) (az k 877 (bg (J 0) (bg (cC (.int 0)) aI)))
theorem lj1 (gx:GX W):JS W (GL k d) (sL 0) (L1 k):=lp gx (by intros;kernel_rfl)
noncomputable def fy(a:aez):LS:=⟨[(0,.glob a)],[],kB.st,4,0,[]⟩
noncomputable def OY (a:aez):LS:=⟨[(1,.ref 4),(0,.glob a)],[],Tr.set (.src 0) 10 kB.st 4,5,0,[]⟩
theorem abp (a:aez) (kn:LS->Rs) (kr:Kv):L1 (xh a) (fy a) kn kr=kn (OY a):=
 (show L1 (xh a) (fy a) kn kr=xh a (.glob 877) [.glob a,.int 0] (fy a) (λv c=>kn ⟨(1,v)::c.loc,c.aK,c.st,c.n,c.lo,c.mark⟩) by kernel_rfl).trans
 ((eC rfl).trans ((show jr (Bl a) (λw w w w=>.no) [.glob a,.int 0] (fy a) (λv c=>kn ⟨(1,v)::c.loc,c.aK,c.st,c.n,c.lo,c.mark⟩)=Bk a ⟨[(0,.glob a),(1,.int 0)],[],kB.st,4,0,[]⟩ (λd=>kn ⟨(1,.none)::(back (fy a) d).loc,(back (fy a) d).aK,(back (fy a) d).st,(back (fy a) d).n,(back (fy a) d).lo,(back (fy a) d).mark⟩) (λv d=>kn ⟨(1,v)::(back (fy a) d).loc,(back (fy a) d).aK,(back (fy a) d).st,(back (fy a) d).n,(back (fy a) d).lo,(back (fy a) d).mark⟩) by kernel_rfl).trans
 ((eC ⟨by kernel_rfl,by kernel_rfl,by kernel_rfl⟩).trans (by kernel_rfl))))
theorem V1 (u:∀ r t lo f,oq (kM r t lo f) (gc r t lo f)) (x:∀ n,n<8->∀ r t lo f,oH n (kM r t lo f) (gc r t lo f)) (y:IntsAre vs ns) (z:vs.length<=63)
  {c:Cx (W0 prog w sl [(a,vs)] os)}(j:ak c) (h:c.comp=none) (k:aP c 27 A) (l:c.scope=fG.scope) (B:c.outer=[]) (C:c.bF=ag2 S T c.L V X) (D:∃ o,c.base.get? af1=some o)
  {N:Led}(R:SR c (fy a) s α N) (G:kj N){Q:Flow->aep->Prop}{E:ael->aep->Prop}
  (H:∀ b g,agM c.h₀ c.L b.heap (g++c.ax)->kj g->(∃ m,Fr c.h₀ c.L b.heap m)->b.gens=#[]->b.os=os->Q (.ret (.bool true)) b):WP (W0 prog w sl [(a,vs)] os) A (aho fG.body c.env) Q E s:=by
 rw [Uc]
 refine kb (lj1 gx c A (kl j (k.less (aer (rfl:aeZ 1 27=true))) h l (Uj y z))) (kn:=λi=>rZ (i=OY a)) (kr:=ib) ((abp a _ ib).trans (AK rfl)) R (λi b p g W d I=>?_) (λv i val b p g W=>nomatch W)
 have L:=AJ W;clear W;subst L
 have M:SR c ia b p g:=⟨by
  refine Y d.fr λm F P=>?_
  refine (ay m F ((NR.none h).mpr λn v e=>(NR.none h).mp P n v ?_))
  have e:lk n [(1,O.ref 4)]=some v:=e
  show lk n [(1,O.ref 4),(0,.glob a)]=some v
  rw [eD] at e ⊢
  by_cases q:n=1
  ·rw [if_pos q] at e ⊢;exact e
  ·rw [if_neg q] at e;exact aT e,d.aK,d.news,d.nodup,d.inj,d.obj,d.all,d.hi,d.wf,d.bD,d.len,d.low,d.bt,d.gens,d.os,d.aZ⟩
 exact XS u x j h k l B C D M (G.ge I.ge) H
end
end
theorem QG (b:TabsAt e h₁)(x:h₁.NoSeer):(ghostOf h₁ e).NoSeer where
 statics:=Y x.statics λc a r=>⟨c,ghost_ns b a,r⟩
 mods:=Y x.mods λc a r=>⟨c,ghost_ns b a,r⟩
 imp:=Y x.imp λc a r=>⟨c,ghost_ns b a,r⟩
 main:=by obtain⟨f,g,ob,h,i,j,d,k⟩:=x.main;exact⟨f,g,ob,ghost_ns b h,i,ghost_get b j (λq=>by rw[q]at d;cases d),d,k⟩
noncomputable def vl:Led:=[(813,afn #[]),(146,afn #[]),(392,afn #[]),(302,afn #[])]
theorem wd (h:α[i]?=some P) (c:(P,afn #[])∈vl) (e:some (AO.tab P q)=some o):∃ a b,α[i]?=some a/\(a,b)∈vl/\OR W α vl i b o:=by
 have d:=aej e;clear e;subst d;exact bB P _ h c (.tab h (by first|trivial|exact .nil|constructor) λf g e=>aT e)
theorem XX (H:∀ r t lo d,oq (kM r t lo d) (gc r t lo d)) (I:∀ n,n<8->∀ r t lo d,oH n (kM r t lo d) (gc r t lo d))
  {prog:ae9}{w:afq}{g:afm}{L:Nat}{j:aez}{k:ael}{sc:afC}{cn:Str}{os:afw}{p:ae9}{u:List Str}{v x:Str->Option ael}{sl:KX}(M:prog.given.tree=none) (X:sl.K.In g) (T:TopRead p u v x g) (C:g.NoSeer) (hsc:sc=fG.scope)
  {a:aez}{vs:List ael}{ns:List Int}(R:g.IsList a vs.toArray) (l:IntsAre vs ns) (S:vs.length<=63){s:aep}{m:Str->Option ael}(F:Fr g L s.heap m) (V:m "script" =some (.ref a)) (N:agM g L s.heap vl) (W:s.gens=#[]) (Z:s.os=os){Q:Flow->aep->Prop}{E:ael->aep->Prop}
  (hQ:∀ b m,Fr g L b.heap m->b.gens=#[]->b.os=os->GrownAll lY b.heap->Q (.ret (.bool true)) b):
  aeO (aeR prog w) (callerA.deeper (ag2 cn sc L j k)) (aho fG.body (ag2 cn sc L j k)) Q E s:=by
 let y:Cx (W0 prog w sl [(a,vs)] os):=⟨callerA,g,[],g,L,ag2 cn sc L j k,ag2 cn sc L j k,none,[]⟩
 have D:lr (W0 prog w sl [(a,vs)] os) p u v x g:=⟨T,C,M⟩
 have hc:ak y:=⟨M7 VV,X,T.nolimit,below_caller g,by show sc.kind=_;rw [hsc];rfl,by show sc.kind=_;rw [hsc];rfl,rfl,rfl,rfl,rfl,⟨p,u,v,x,D⟩,by show (sc.names.map (·.1)).Nodup;rw [hsc];decide,X,⟨p,u,v,x,D⟩,T.nolimit,λ_=>rfl,(λ_ _ e=>nomatch e),λq z=>by rw [aev.mp z];exact R⟩
 have hA:aP y 27 (callerA.deeper (ag2 cn sc L j k)):=⟨rfl,aer (by kernel_rfl),aer (by kernel_rfl),rfl⟩
 have G:∃ o,g.get? af1=some o:=by
  obtain ⟨mm,⟨o,es,ep,e,_⟩,_⟩:=C.mods
  exact ⟨o,e⟩
 have qa:SR y (fy a) s [813,146,392,302] vl:=by
  refine ⟨⟨m,F,(NR.none (c:=y) rfl).mpr λn qb e=>?_⟩,(λ_ _ e=>nomatch e),by rw [agD];exact N,by rw [agD];decide,by decide,λi o l e=>?_,λqc hx=>aeF (f:=(·.1)) (aeF (f:=λa=>(a,afn #[])) hx),λq z=>?_,OU,aer rfl,rfl,afj _,(λ_ h=>nomatch h),W,Z,X.keeps F.keep⟩
  ·have e:lk n [(0,O.glob a)]=some qb:=e
   rw [eD] at e
   by_cases q:n=0
   ·rw [if_pos q] at e
    have bj:=aej e;clear e;subst q bj
    exact ⟨"script",.local,.ref a,by show sc.names[(0:Nat)]?=_;rw [hsc];rfl,V,.glob a⟩
   ·rw [if_neg q] at e;exact aT e
  ·have l:i<4:=l
   induction i using aeI with
   |zero=>exact wd rfl (.head _) ((show kB.st.get 0=some (.tab 813 xS) by kernel_rfl).symm.trans e)
   |succ i=>
    induction i using aeI with
    |zero=>exact wd rfl (.tail _ (.head _)) ((show kB.st.get 1=some (.tab 146 s9) by kernel_rfl).symm.trans e)
    |succ i=>
     induction i using aeI with
     |zero=>exact wd rfl (.tail _ (.tail _ (.head _))) ((show kB.st.get 2=some (.tab 392 yN) by kernel_rfl).symm.trans e)
     |succ i=>
      induction i using aeI with
      |zero=>exact wd rfl (.tail _ (.tail _ (.tail _ (.head _)))) ((show kB.st.get 3=some (.tab 302 yL) by kernel_rfl).symm.trans e)
      |succ i=>exact absurd l (aft.mpr (agC 4 i))
  ·rw [agD] at z
   refine beq_eq_false_iff_ne.mpr λe=>?_
   refine aL G λom hom=>?_
   have:=(N q z).2.2
   rw [e,show g.get? af1=some om from hom] at this
   exact nk this
 refine V1 H I l S hc rfl hA hsc rfl rfl G qa (λP B=>⟨#[],aeF (f:=λa=>(a,afn #[])) B⟩) λb N' NN TT hF hg ho=>?_
 refine aL hF λm' F'=>?_
 have A:∀ P,P∈([813,146,392,302]:List aez)->GrownAt P b.heap:=λP B=>by
  refine aL (TT P B) λps h=>?_
  exact ⟨ps,(NN _ (aeo _ h)).1⟩
 exact hQ b m' F' hg ho ⟨A 813 (.head _),A 146 (.tail _ (.head _)),A 392 (.tail _ (.tail _ (.head _))),A 302 (.tail _ (.tail _ (.tail _ (.head _)))),trivial⟩
theorem Uk (Hm:∀ r t lo df,oq (kM r t lo df) (gc r t lo df)) (Hr:∀ n,n<8->∀ r t lo df,oH n (kM r t lo df) (gc r t lo df)):WalkO qv lsN (XL qv []) tK.says ahD.row.toRowW m8 [] (λf vs=>afl f vs):=by
 intro w aeh dn mg mb G Y fa o pm cd doc dV kV ho hd lS hD hmg hg args vals as adZ ad0 hrd hwl eU;obtain⟨⟨sl,KX⟩,hTb⟩:=Y;have X:=(Ground.X G).1;have V:=(Ground.X G).2;have pK:TabsAt lY dn.heap:=λq hq=>⟨F5 KX (aeK.mp (mo sl).hd q hq),hTb _ (aeF hq)⟩
 refine Ground.open G ?_;intro T B D TE TW;clear hmg;wrow_args adZ ad0 hrd hwl eU;all_goals (
  refine enter_call ?_;w_top on;refine kn_post pK (λ_ _=>rfl) ?_
  w_call any ho hd lS hD T F;clear hd)
 rw [show m8.body=fG.body by kernel_rfl]
 have N1:=ghost_news pK F ‹agM _ _ _ []›;have hl:=ghost_list pK ‹dn.heap.IsList _ _›;have hi:=‹IntsAre _ _›;have T1:=topRead_of (ghost_top pK T);have F1:=ghost_fr pK F;refine XX (sl:=sl) Hm Hr ?_ (ghost_K pK KX (mo sl).nt) T1 ?_ ?_ hl hi ?_ (s:=Shared.mk _ _ _ _ _) F1 ?_ ?_ ?_ rfl λrJ m F hg ho hG=>?_
 rotate_right
 ·exact⟨goodW_bool F hg (raisesW_false (by wrow_none_raised)) (by wrow_post) ho,hG⟩
 ·kernel_rfl
 ·exact QG pK (T.seer (by kernel_rfl))
 ·kernel_rfl
 ·rw [hi.length];omega
 ·rfl
 ·exact N1
 ·exact hg
theorem b4{P:Bool->Bool->Bool->Bool->Prop}(b:P false false false false) (c:P false false false true) (d:P false false true false) (e:P false false true true) (f:P false true false false) (g:P false true false true) (h:P false true true false) (i:P false true true true) (j:P true false false false) (k:P true false false true) (l:P true false true false) (m:P true false true true) (n:P true true false false) (o:P true true false true) (p:P true true true false) (q:P true true true true):∀ r t lo a,P r t lo a:=
 λr t lo a=>aex (aex (aex (aex b c a) (aex d e a) lo) (aex (aex f g a) (aex h i a) lo) t) (aex (aex (aex j k a) (aex l m a) lo) (aex (aex n o a) (aex p q a) lo) t) r
noncomputable def DO (x:Rs):Bool:=Rs.casesOn x (λa=>j4 false a true) (λb=>false) false
theorem Ha{x:Rs}(h:DO x=true):x=.ok .none:=by
 induction x using Rs.casesOn with
 |ok a=>induction a using O.casesOn<;>first|rfl|exact aX h
 |_=>exact aX h
theorem b8{P:Nat->Prop}(a:P 0)(b:P 1)(c:P 2)(d:P 3)(e:P 4)(f:P 5)(g:P 6)(i:P 7):∀ n,n<8->P n:=by
 intro n h
 iterate 8 (induction n using aeI;assumption;rename_i n)
 exact absurd h (aft.mpr (agC 8 n))
noncomputable def zM (r t lo a:Bool):Bool:=DO (L3 (kM r t lo a) (OW (gc r t lo a)) (λb=>L4 (kM r t lo a) b DN ib) ib)
noncomputable def zR (n:Nat) (r t lo a:Bool):Bool:=DO (y7 (kR (kM r t lo a)) (kM r t lo a) (eH (gq n) (gc r t lo a)) (λb=>.ok .none) ib)
theorem XY:∀ r t lo a,zM r t lo a=true:=by apply b4<;>decide +kernel
theorem XZ:∀ n,n<8->∀ r t lo a,zR n r t lo a=true:=by apply b8<;>apply b4<;>decide +kernel
theorem runsM:∀ r t lo a,oq (kM r t lo a) (gc r t lo a):=λr t lo a=>Ha (XY r t lo a)
theorem runsR:∀ n,n<8->∀ r t lo a,oH n (kM r t lo a) (gc r t lo a):=λn h r t lo a=>Ha (XZ n h r t lo a)
theorem BN:defOf qv jO.row.name=some (m8,[]):=by kernel_rfl
theorem ad1:jO.row.prog.theDef jO.row.name=some (m8.params,m8.body,m8.scope):=by kernel_rfl
theorem hkw:kwWritten? m8.params.kwonlyargs m8.params.kw_defaults=some []:=by kernel_rfl
theorem fq:(!jO.row.writes ||jO.row.records.isEmpty)=true:=by kernel_rfl
theorem abq:jO.row.prog.bare:=⟨rfl,rfl,rfl,rfl,rfl,by decide +kernel⟩
theorem nC:(chainsOk qv&&opensWell jO.row.prog&&(frees jO.row.toRowW&&jO.row.within.isEmpty))=true:=by decide +kernel
theorem abr:jO.row.toRowW.promised:=RowW.promised_of_found (by decide +kernel)
theorem fin (b:∀ r t lo a,oq (kM r t lo a) (gc r t lo a)) (c:∀ n,n<8->∀ r t lo a,oH n (kM r t lo a) (gc r t lo a)):jO.Holds:=
 holds_law aa2 λd=>holds_open aa1 tK.of tK.keeps (λs e=>xl_of s (aei.mp e).1) XL.keeps BN ad1 hkw (λs e=>recFacts_of (aei.mp e).2) fq d nC abq abr (Uk b c)
end
end Eng
theorem PySem.Challenge.cw_ot0046_01_holds : PySem.Challenge.rw_ot0046_01.Holds :=
  Eng.fin Eng.runsM Eng.runsR
