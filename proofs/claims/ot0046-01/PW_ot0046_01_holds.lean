import PyProof.Rows.All
import Wide.All
import OpenK.KSplit
import OpenK.KNot
import OpenK.KApp
import Wide.FinOn
import KE.KDictSum
import KE.KPar
import KE.KDictOf
import KE.KBoundM
import KE.KTryMore
import KE.LcTurns
import KE.KEqDict
import KE.KTurns
import KE.KLam
import KE.KItem
import KE.KRevIter
import KE.KGrown
import KE.KDictList
import PyProof.AttrMissHeap
import PyProof.ExcBaseAll.Exception
import PyProof.InstStore
import PyProof.Rows.TupMore
import PySem.Challenge.RW_ot0046_01
set_option backward.match.sparseCases false
set_option genSizeOf false
set_option genInjectivity false
set_option linter.unusedVariables false
set_option Elab.async false
set_option maxRecDepth 1000000
set_option maxHeartbeats 8000000
open PySem PySem.W PySem.Calls PyProof.Rows
open _root_.Bool renaming and_eq_true_iff→ad9,casesOn→aee,rec→aen,not_eq_true'→aeK,false_ne_true→aeP,and_eq_true→ae4,or_eq_true→afK,false_eq_true→ahm,false_or→ajL
open _root_.Option.some renaming inj→aea
open _root_.PySem renaming wpAny_bind→aeb,Value→aec,Shared→aeg,wpAny_pure→aeo,Addr→aep,Expr→aeD,wpAny→aeF,model→aeI,plain→aeS,Around→aeX,Program→ae0,mainGlobals→ae1,strKind→ae2,wpAny_field→ae3,rawInt→ae6,call→afc,Heap→afd,World→afh,PyData→afj,NameKind→afm,OsState→afn,Scope→aft,Stmt→afu,behindInMarks→afy,IsPair→afC,wpAny_mono→afE,cellsFrom→afF,wpAny_newObj_type→afH,wpAny_callSpecial?_slot→afI,wpAny_call_entry→afL,wpAny_truthy_bool→afN,wpAny_holding→afO,sysModules→afS,wpAny_loadPart_at→af2,builtinLookup_eq_fast→af5,wpAny_pyIter_tuple→aga,codeAny→agb,wpAny_seqItems→agd,wpAny_execs_cons→ago,wpAny_isSubtype_exc→agB,bindArgs→agC,starEach→agE,builtinsNs→agG,assignEach→agH,wpAny_call→agI,cameBackBy→agJ,wpAny_of_eq→agK,wpAny_setField_rec→agN,letOwnedTupleGo→agP,IsZip→agQ,relabel→agR,typeLookup_type→agS,swappedStores→agV,strKind_is→agY,excClassObj→ag2,wpAny_setField→ag3,plainObj_wpAny_Assign_Attribute→ahb,execs→ahf,wpAny_execs_nil→ahh,wpAny_rule→ahj,wpAny_isTrue_Compare1→ahq,wpAny_storeName_local→ahr,codeAmong→ahv,compareOp→ahw,FuncData→ahx,Draws→ahB,compEnvC→ahC,typeLookup→ahD,checkBuiltinCall→ahE,wpAny_standAt→ahF,wpAny_attempt→ahJ,wpAny_specialOf→ahQ,backTo→ahT,bootBuiltins→ahV,evalPart_none_step→ahW,valueAt→ah5,call_meets→ah6,assign→aie,Result→aif,pyNext→aih,wpAny_Assign_Subscript→aii,wpAny_isInstance→aik,swapsWith→ain,notedBy→aio,wpAny_loadName_local→air,pyIter→ait,wpAny_typeOf→aiu,wpAny_loadPart'→aiy,codeAny_builtin→aiB,wpAny_Expr_any→aiP,firstArgMember→aiT,TriplesOk→aiY,seqIndex?→ai0,treeTable→ai6,strKind→ai8,wpAny_onRaise→ai9,wpAny_pyIter_list→ajb,wpAny_assign_Name→aje,wpAny_Name→ajf,wpAny_load→ajg,closureFor→ajh,entryFor_of_tree→ajt,wpAny_pyIter_zip→aju
open _root_.Nat renaming eq_of_beq_eq_true→aed,le_of_ble_eq_true→aei,lt_of_lt_of_le→aej,beq→aem,le_refl→aeu,le_trans→aev,casesAuxOn→aez,ne_of_lt→aeE,ble→aeQ,le_add_right→aeR,lt_succ_of_lt→ae7,zero_le→afa,succ→afb,not_lt→afk,blt→afl,lt_irrefl→afx,beq_refl→afz,rec→afX,le_succ→afY,succ_le_succ→af6,lt_of_le_of_lt→af7,le_of_eq→af8,pred→agf,lt_trans→agk,ne_of_gt→agl,lt_succ_self→agp,le_add_left→agt,add_sub_cancel_left→agy,add_le_add_left→agA,le_of_lt→agM,le_succ_of_le→agX,add_le_add_right→agZ,succ_add→ag5,succ_ne_self→ag7,zero_add→ag8,lt_succ_of_le→ahn,ble_eq_true_of_le→aho,add→ahK,le_of_lt_succ→aib,ne_of_beq_eq_false→aid,casesOn→aij,not_lt_zero→aiG,add_sub_cancel'→aiJ,lt_of_le_of_ne→aiZ,succ_ne_zero→ajx,le_antisymm→ajB
open _root_.List renaming mem_append_left→aef,mem_append_right→aek,mem_singleton→ael,mem_cons→aeq,casesOn→aet,mem_map_of_mem→aew,all_eq_true→aeB,rec→aeC,mem_map→aeG,mem_append→aeH,map_cons→aeL,mem_of_getElem?→aeM,getElem?_eq_getElem→aeN,map_append→aeO,nodup_cons→aeU,getElem?_eq_some_iff→aeV,nodup_append→aeY,pairwise_singleton→ae5,size_toArray→ae9,getElem?_toArray→afo,lookup_cons→afq,any_cons→afr,prefix_refl→afA,append_assoc→afG,range→afT,getElem?_map→af1,length_eq_zero_iff→age,reverse_cons→agg,append_nil→agu,mem_range→agF,length_append→agL,getElem?_append_right→agU,cons_append→ag4,not_mem_nil→aha,length_map→ahi,mem_iff_getElem?→aht,mem_cons_of_mem→ahy,drop_length→ahA,all_cons→ahI,lookup→ahL,length_reverse→ahM,getElem?_append_left→ahN,drop_eq_getElem_cons→ahO,mem_filter→ahR,prefix_append→ahU,pairwise_cons→ahY,mem_filterMap→ah3,filter_cons_of_pos→ah7,filter_cons_of_neg→ah8,map_inj_left→aic,isEmpty_iff→aim,contains_iff_mem→aiq,forIn_cons→aiz,filterMap_cons→aiM,drop_zero→aiR,sublist_append_right→aji,toArray→ajl,length_cons→ajq
open _root_.PySem.Heap renaming get?_push_of_some→aeh,get?_push_size→aeA,lt_size→aeJ,size_push→af0,dictOf_iff→af3,get?_update_self→af4,SameBut→aiv,get?_none_of_le→aiE,get?_update_ne→aiL,ExtBut→aiW
open _root_.Option renaming casesOn→aer,rec→aeT,map_eq_some_iff→afZ,isSome_iff_exists→ah0
open _root_.PySem.W renaming listOf→aex,isStarred→aey,tabObj→afe,onStr→afD,Frag→afM,dictOf→afP,findIn→agj,objE→agm,getL→ags,boot_heap→agO,instObj→ahp,handedIn→ahS,of_hideAll→aiD,hideAll_get→aiX,boot_drawn→ajk,plainGet→ajm,looks_findIn→ajo
open _root_.PySem.NameKind renaming globalImplicit→aeW,free→afW,cell→ahd
open _root_.Prod.mk renaming inj→aeZ,injEq→aja
open _root_.PySem.PyData renaming canLayAll0→ae8,strOk→afg,eqv→afJ,casesOn→afQ,eqvAll→agx,depthAll→ahg,canLay0→ah4,depth→ais,keyHash→aiN
open _root_.PySem.Value renaming casesOn→aff,ref→afi,none→agc,type→agw
open _root_.PySem.Builtin.SmallTypes renaming ownedTupleIsFree→afp,nextOf→afv,ownedTupleHandOut→ahZ,stopIteration→ail
open _root_.Int renaming ofNat→afs,casesOn→afw,lt_trans→aiC,ofNat_lt→aiH,add_lt_add_right→aiI,toNat_natCast→ajc,add_nonneg→ajG
open _root_.PySem.Expr renaming casesOn→afB
open _root_.Nat.succ renaming inj→afR
open _root_.PySem.Code renaming builtin→afU,quiet_builtin→ah2
open _root_.PySem.W.Looks renaming of_pure→afV
open _root_.PySem.Obj renaming data_mapFields→af9,isFreed_of_fields→ahs,mapFields→ahH
open _root_.PyProof.Rows renaming args_cons→agh,slot_tuple_getitem→agr,News→agD,envOf→agT,args_nil→ag6,subscriptTail→ahG,isStrOf→aix,tail_any→aiQ,modules_low→aiV,slot_tuple_getitem→ai1,assign_Name→ajn,add_int→ajH,strKind→ajI,risingS→ajJ,sortedS→ajK
open _root_.PySem.Heap.SameBut renaming update→agi
open _root_.Array renaming getElem?_eq_some_iff→agn,toArray_toList→aiw,length_toList→aiK,mk→ajy
open _root_.PySem.W.KTurns renaming ofWalks→agq
open _root_.PySem.Str renaming ofString→agv
open _root_.PySem.Heap.UpToSlots renaming of_keeps→agz
open _root_.PySem.F renaming slot_tuple_iterator_next→agW,excBase_Exception→ag1,slot_zip_next→ahk,slot_zip_getattribute→ah9,plainAttrs_list→aia,slot_dict_get→aip,plain_reversed_new→aiA,slot_int_rmul→aiF,args_tuple_iterator_next_1→aiS,slot_str_startswith→ai3,entry_tuple_iterator_next→ai4,args_zip_next_1→ajd,slot_list_extend→ajp,slot_tuple_count→ajr,entry_zip_next→ajs,slot_tuple_mul→ajv,entry_dict_get→ajD,plainAttrs_str→ajE,slot_str_join→ajF
open _root_.PySem.Builtin.Slice renaming slicePlaces→ag0,sliceAdjust→ahP,sliceApplied→ai7
open _root_.PySem.Builtin.Tuple renaming tupleExact→ag9
open _root_.Classical renaming propDecidable→ahc,byContradiction→ajj
open _root_.PyProof.Rows.LCg renaming NsObj→ahe
open _root_.ForInStep renaming yield→ahl
open _root_.PySem.Challenge renaming rw_ot0046_01→ahu,pw_ot0046_01→aiU
open _root_.PySem.Calls renaming Name_function_global→ahz
open _root_.PySem.Builtin.List renaming listTooLong→ahX
open _root_.PySem.Data renaming casesOn→ah1
open _root_.PySem.W.InstAt renaming of_news→aiO
open _root_.PySem.Heap.IsSliceOf renaming new→ai2
open _root_.PySem.ScopeKind renaming function→ai5
open _root_.PySem.Builtin.Dict renaming addKeywords→ajw,updateFrom→ajA
open _root_.PySem.Builtin.Range renaming rangeSize→ajz
open _root_.PySem.Heap.DictOf renaming new→ajC
namespace Eng
noncomputable section
section
universe u1 u2 u3 u4 u5 u6 u7 u8 u9
variable{a0:Sort u1}{a1:∀ x0:a0,Sort u2}{a2:∀ x0:a0,∀ x1:a1 x0,Sort u3}{a3:∀ x0:a0,∀ x1:a1 x0,∀ x2:a2 x0 x1,Sort u4}{a4:∀ x0:a0,∀ x1:a1 x0,∀ x2:a2 x0 x1,∀ x3:a3 x0 x1 x2,Sort u5}{a5:∀ x0:a0,∀ x1:a1 x0,∀ x2:a2 x0 x1,∀ x3:a3 x0 x1 x2,∀ x4:a4 x0 x1 x2 x3,Sort u6}{a6:∀ x0:a0,∀ x1:a1 x0,∀ x2:a2 x0 x1,∀ x3:a3 x0 x1 x2,∀ x4:a4 x0 x1 x2 x3,∀ x5:a5 x0 x1 x2 x3 x4,Sort u7}{a7:∀ x0:a0,∀ x1:a1 x0,∀ x2:a2 x0 x1,∀ x3:a3 x0 x1 x2,∀ x4:a4 x0 x1 x2 x3,∀ x5:a5 x0 x1 x2 x3 x4,∀ x6:a6 x0 x1 x2 x3 x4 x5,Sort u8}{a8:∀ x0:a0,∀ x1:a1 x0,∀ x2:a2 x0 x1,∀ x3:a3 x0 x1 x2,∀ x4:a4 x0 x1 x2 x3,∀ x5:a5 x0 x1 x2 x3 x4,∀ x6:a6 x0 x1 x2 x3 x4 x5,∀ x7:a7 x0 x1 x2 x3 x4 x5 x6,Sort u9}{p0 p1 p2 p3 p4 p5:Prop}{q0 q1 q2 q3 q4 q5 q6 q7:∀ x0:a0,Prop}{r0 r1 r2 r3 r4 r5 r6 r7:∀ x0:a0,∀ x1:a1 x0,Prop}{s0 s1 s2 s3 s4 s5 s6:∀ x0:a0,∀ x1:a1 x0,∀ x2:a2 x0 x1,Prop}{t0 t1 t2 t3 t4 t5 t6 t7 t8 t9 yl:∀ x0:a0,∀ x1:a1 x0,∀ x2:a2 x0 x1,∀ x3:a3 x0 x1 x2,Prop}{u0 u1 u2 u3 u4 u5 u6 u7 u8 u9:∀ x0:a0,∀ x1:a1 x0,∀ x2:a2 x0 x1,∀ x3:a3 x0 x1 x2,∀ x4:a4 x0 x1 x2 x3,Prop}{v0 v1 v2 v3 v4 v5 v6:∀ x0:a0,∀ x1:a1 x0,∀ x2:a2 x0 x1,∀ x3:a3 x0 x1 x2,∀ x4:a4 x0 x1 x2 x3,∀ x5:a5 x0 x1 x2 x3 x4,Prop}{w0 w1 w2 w3 w4:∀ x0:a0,∀ x1:a1 x0,∀ x2:a2 x0 x1,∀ x3:a3 x0 x1 x2,∀ x4:a4 x0 x1 x2 x3,∀ x5:a5 x0 x1 x2 x3 x4,∀ x6:a6 x0 x1 x2 x3 x4 x5,Prop}{z0 z1 z2 z3 z4 z5 z6 z7 z8 z9:∀ x0:a0,∀ x1:a1 x0,∀ x2:a2 x0 x1,∀ x3:a3 x0 x1 x2,∀ x4:a4 x0 x1 x2 x3,∀ x5:a5 x0 x1 x2 x3 x4,∀ x6:a6 x0 x1 x2 x3 x4 x5,∀ x7:a7 x0 x1 x2 x3 x4 x5 x6,∀ x8:a8 x0 x1 x2 x3 x4 x5 x6 x7,Prop}{G:Prop}
theorem aX(h:false=true):G:=Bool.noConfusion h
theorem gr(h:true=false):G:=Bool.noConfusion h
theorem aT{α:Type u1}{a:α}(h:none=some a):G:=by cases h
theorem nj{α:Type u1}{a:α}(h:some a=none):G:=by cases h
theorem ae(h:p0/\p1)(k:p0->p1->G):G:=k h.1 h.2
theorem aL(h:∃ a,q0 a)(k:∀ a,q0 a->G):G:=h.elim λa h=>k a h
theorem bU(h:p0/\p1/\p2)(k:p0->p1->p2->G):G:=k h.1 h.2.1 h.2.2
theorem Ls(h:p0/\∃ a,q0 a)(k:p0->∀ a,q0 a->G):G:=h.2.elim λa b=>k h.1 a b
theorem Y(h:∃ a,q0 a/\q1 a)(k:∀ a,q0 a->q1 a->G):G:=h.elim λa h=>k a h.1 h.2
theorem eY(h:∃ a,∃ b,r0 a b)(k:∀ a,∀ b,r0 a b->G):G:=h.elim λa h=>h.elim λb h=>k a b h
theorem j4(h:p0/\p1/\p2/\p3)(k:p0->p1->p2->p3->G):G:=k h.1 h.2.1 h.2.2.1 h.2.2.2
theorem AH(h:p0/\∃ a,q0 a/\q1 a)(k:p0->∀ a,q0 a->q1 a->G):G:=h.2.elim λa b=>k h.1 a b.1 b.2
theorem G6(h:p0/\∃ a,∃ b,r0 a b)(k:p0->∀ a,∀ b,r0 a b->G):G:=h.2.elim λa c=>c.elim λb d=>k h.1 a b d
theorem cJ(h:∃ a,q0 a/\q1 a/\q2 a)(k:∀ a,q0 a->q1 a->q2 a->G):G:=h.elim λa h=>k a h.1 h.2.1 h.2.2
theorem be(h:∃ a,∃ b,r0 a b/\r1 a b)(k:∀ a,∀ b,r0 a b->r1 a b->G):G:=h.elim λa h=>h.elim λb h=>k a b h.1 h.2
theorem VV(h:p0/\∃ a,q0 a/\q1 a/\q2 a)(k:p0->∀ a,q0 a->q1 a->q2 a->G):G:=h.2.elim λa b=>k h.1 a b.1 b.2.1 b.2.2
theorem Gf(h:p0/\∃ a,∃ b,r0 a b/\r1 a b)(k:p0->∀ a,∀ b,r0 a b->r1 a b->G):G:=h.2.elim λa d=>d.elim λb c=>k h.1 a b c.1 c.2
theorem j0(h:∃ a,q0 a/\q1 a/\q2 a/\q3 a)(k:∀ a,q0 a->q1 a->q2 a->q3 a->G):G:=h.elim λa h=>k a h.1 h.2.1 h.2.2.1 h.2.2.2
theorem kT(h:∃ a,q0 a/\q1 a/\∃ b,r0 a b)(k:∀ a,q0 a->q1 a->∀ b,r0 a b->G):G:=h.elim λa c=>c.2.2.elim λb d=>k a c.1 c.2.1 b d
theorem aH(h:∃ a,∃ b,r0 a b/\r1 a b/\r2 a b)(k:∀ a,∀ b,r0 a b->r1 a b->r2 a b->G):G:=h.elim λa h=>h.elim λb h=>k a b h.1 h.2.1 h.2.2
theorem kU(h:∃ a,∃ b,∃ c,s0 a b c/\s1 a b c)(k:∀ a,∀ b,∀ c,s0 a b c->s1 a b c->G):G:=h.elim λa h=>h.elim λb h=>h.elim λc h=>k a b c h.1 h.2
theorem gH(h:∃ a,∃ b,∃ c,∃ d,t0 a b c d)(k:∀ a,∀ b,∀ c,∀ d,t0 a b c d->G):G:=h.elim λa h=>h.elim λb h=>h.elim λc h=>h.elim λd h=>k a b c d h
theorem Fn(h:p0/\p1/\p2/\p3/\p4/\p5)(k:p0->p1->p2->p3->p4->p5->G):G:=k h.1 h.2.1 h.2.2.1 h.2.2.2.1 h.2.2.2.2.1 h.2.2.2.2.2
theorem kL(h:p0/\∃ a,∃ b,r0 a b/\r1 a b/\r2 a b)(k:p0->∀ a,∀ b,r0 a b->r1 a b->r2 a b->G):G:=h.2.elim λa d=>d.elim λb c=>k h.1 a b c.1 c.2.1 c.2.2
theorem Ud(h:∃ a,q0 a/\q1 a/\q2 a/\q3 a/\q4 a)(k:∀ a,q0 a->q1 a->q2 a->q3 a->q4 a->G):G:=h.elim λa h=>k a h.1 h.2.1 h.2.2.1 h.2.2.2.1 h.2.2.2.2
theorem eI(h:∃ a,∃ b,r0 a b/\r1 a b/\r2 a b/\r3 a b)(k:∀ a,∀ b,r0 a b->r1 a b->r2 a b->r3 a b->G):G:=h.elim λa h=>h.elim λb h=>k a b h.1 h.2.1 h.2.2.1 h.2.2.2
theorem cg(h:∃ a,∃ b,∃ c,s0 a b c/\s1 a b c/\s2 a b c)(k:∀ a,∀ b,∀ c,s0 a b c->s1 a b c->s2 a b c->G):G:=h.elim λa h=>h.elim λb h=>h.elim λc h=>k a b c h.1 h.2.1 h.2.2
theorem Ue(h:∃ a,∃ b,∃ c,∃ d,∃ e,u0 a b c d e)(k:∀ a,∀ b,∀ c,∀ d,∀ e,u0 a b c d e->G):G:=h.elim λa h=>h.elim λb h=>h.elim λc h=>h.elim λd h=>h.elim λe h=>k a b c d e h
theorem EF(h:∃ a,q0 a/\q1 a/\q2 a/\q3 a/\q4 a/\q5 a)(k:∀ a,q0 a->q1 a->q2 a->q3 a->q4 a->q5 a->G):G:=h.elim λa h=>k a h.1 h.2.1 h.2.2.1 h.2.2.2.1 h.2.2.2.2.1 h.2.2.2.2.2
theorem kI(h:∃ a,∃ b,r0 a b/\r1 a b/\r2 a b/\r3 a b/\r4 a b)(k:∀ a,∀ b,r0 a b->r1 a b->r2 a b->r3 a b->r4 a b->G):G:=h.elim λa h=>h.elim λb h=>k a b h.1 h.2.1 h.2.2.1 h.2.2.2.1 h.2.2.2.2
theorem gC(h:∃ a,∃ b,∃ c,s0 a b c/\s1 a b c/\s2 a b c/\s3 a b c)(k:∀ a,∀ b,∀ c,s0 a b c->s1 a b c->s2 a b c->s3 a b c->G):G:=h.elim λa h=>h.elim λb h=>h.elim λc h=>k a b c h.1 h.2.1 h.2.2.1 h.2.2.2
theorem RH(h:∃ a,∃ b,∃ c,∃ d,∃ e,u0 a b c d e/\u1 a b c d e)(k:∀ a,∀ b,∀ c,∀ d,∀ e,u0 a b c d e->u1 a b c d e->G):G:=h.elim λa h=>h.elim λb h=>h.elim λc h=>h.elim λd h=>h.elim λe h=>k a b c d e h.1 h.2
theorem RJ(h:∃ a,∃ b,∃ c,∃ d,∃ e,∃ f,v0 a b c d e f)(k:∀ a,∀ b,∀ c,∀ d,∀ e,∀ f,v0 a b c d e f->G):G:=h.elim λa h=>h.elim λb h=>h.elim λc h=>h.elim λd h=>h.elim λe h=>h.elim λf h=>k a b c d e f h
theorem r8(h:∃ a,∃ b,∃ c,s0 a b c/\s1 a b c/\s2 a b c/\s3 a b c/\s4 a b c)(k:∀ a,∀ b,∀ c,s0 a b c->s1 a b c->s2 a b c->s3 a b c->s4 a b c->G):G:=h.elim λa h=>h.elim λb h=>h.elim λc h=>k a b c h.1 h.2.1 h.2.2.1 h.2.2.2.1 h.2.2.2.2
theorem pO(h:∃ a,∃ b,∃ c,∃ d,t0 a b c d/\t1 a b c d/\t2 a b c d/\t3 a b c d)(k:∀ a,∀ b,∀ c,∀ d,t0 a b c d->t1 a b c d->t2 a b c d->t3 a b c d->G):G:=h.elim λa h=>h.elim λb h=>h.elim λc h=>h.elim λd h=>k a b c d h.1 h.2.1 h.2.2.1 h.2.2.2
theorem r9(h:∃ a,∃ b,∃ c,∃ d,∃ e,u0 a b c d e/\u1 a b c d e/\u2 a b c d e)(k:∀ a,∀ b,∀ c,∀ d,∀ e,u0 a b c d e->u1 a b c d e->u2 a b c d e->G):G:=h.elim λa h=>h.elim λb h=>h.elim λc h=>h.elim λd h=>h.elim λe h=>k a b c d e h.1 h.2.1 h.2.2
theorem vk(h:∃ a,q0 a/\q1 a/\q2 a/\q3 a/\q4 a/\q5 a/\q6 a/\q7 a)(k:∀ a,q0 a->q1 a->q2 a->q3 a->q4 a->q5 a->q6 a->q7 a->G):G:=h.elim λa h=>k a h.1 h.2.1 h.2.2.1 h.2.2.2.1 h.2.2.2.2.1 h.2.2.2.2.2.1 h.2.2.2.2.2.2.1 h.2.2.2.2.2.2.2
theorem PU(h:∃ a,q0 a/\∃ b,∃ c,s0 a b c/\s1 a b c/\s2 a b c/\s3 a b c/\s4 a b c)(k:∀ a,q0 a->∀ b,∀ c,s0 a b c->s1 a b c->s2 a b c->s3 a b c->s4 a b c->G):G:=h.elim λa e=>e.2.elim λb f=>f.elim λc d=>k a e.1 b c d.1 d.2.1 d.2.2.1 d.2.2.2.1 d.2.2.2.2
theorem D5(h:∃ a,∃ b,r0 a b/\r1 a b/\r2 a b/\r3 a b/\r4 a b/\r5 a b/\r6 a b)(k:∀ a,∀ b,r0 a b->r1 a b->r2 a b->r3 a b->r4 a b->r5 a b->r6 a b->G):G:=h.elim λa h=>h.elim λb h=>k a b h.1 h.2.1 h.2.2.1 h.2.2.2.1 h.2.2.2.2.1 h.2.2.2.2.2.1 h.2.2.2.2.2.2
theorem PV(h:∃ a,∃ b,∃ c,s0 a b c/\s1 a b c/\s2 a b c/\s3 a b c/\s4 a b c/\s5 a b c)(k:∀ a,∀ b,∀ c,s0 a b c->s1 a b c->s2 a b c->s3 a b c->s4 a b c->s5 a b c->G):G:=h.elim λa h=>h.elim λb h=>h.elim λc h=>k a b c h.1 h.2.1 h.2.2.1 h.2.2.2.1 h.2.2.2.2.1 h.2.2.2.2.2
theorem ir(h:∃ a,∃ b,∃ c,∃ d,t0 a b c d/\t1 a b c d/\t2 a b c d/\t3 a b c d/\t4 a b c d)(k:∀ a,∀ b,∀ c,∀ d,t0 a b c d->t1 a b c d->t2 a b c d->t3 a b c d->t4 a b c d->G):G:=h.elim λa h=>h.elim λb h=>h.elim λc h=>h.elim λd h=>k a b c d h.1 h.2.1 h.2.2.1 h.2.2.2.1 h.2.2.2.2
theorem Py(h:∃ a,∃ b,∃ c,s0 a b c/\s1 a b c/\s2 a b c/\s3 a b c/\s4 a b c/\s5 a b c/\s6 a b c)(k:∀ a,∀ b,∀ c,s0 a b c->s1 a b c->s2 a b c->s3 a b c->s4 a b c->s5 a b c->s6 a b c->G):G:=h.elim λa h=>h.elim λb h=>h.elim λc h=>k a b c h.1 h.2.1 h.2.2.1 h.2.2.2.1 h.2.2.2.2.1 h.2.2.2.2.2.1 h.2.2.2.2.2.2
theorem Pz(h:∃ a,∃ b,∃ c,s0 a b c/\s1 a b c/\s2 a b c/\s3 a b c/\∃ d,t0 a b c d/\t1 a b c d)(k:∀ a,∀ b,∀ c,s0 a b c->s1 a b c->s2 a b c->s3 a b c->∀ d,t0 a b c d->t1 a b c d->G):G:=h.elim λa g=>g.elim λb i=>i.elim λc e=>e.2.2.2.2.elim λd f=>k a b c e.1 e.2.1 e.2.2.1 e.2.2.2.1 d f.1 f.2
theorem zb(h:∃ a,∃ b,∃ c,∃ d,t0 a b c d/\t1 a b c d/\t2 a b c d/\t3 a b c d/\t4 a b c d/\t5 a b c d)(k:∀ a,∀ b,∀ c,∀ d,t0 a b c d->t1 a b c d->t2 a b c d->t3 a b c d->t4 a b c d->t5 a b c d->G):G:=h.elim λa h=>h.elim λb h=>h.elim λc h=>h.elim λd h=>k a b c d h.1 h.2.1 h.2.2.1 h.2.2.2.1 h.2.2.2.2.1 h.2.2.2.2.2
theorem PA(h:∃ a,∃ b,∃ c,∃ d,∃ e,u0 a b c d e/\u1 a b c d e/\u2 a b c d e/\u3 a b c d e/\u4 a b c d e)(k:∀ a,∀ b,∀ c,∀ d,∀ e,u0 a b c d e->u1 a b c d e->u2 a b c d e->u3 a b c d e->u4 a b c d e->G):G:=h.elim λa h=>h.elim λb h=>h.elim λc h=>h.elim λd h=>h.elim λe h=>k a b c d e h.1 h.2.1 h.2.2.1 h.2.2.2.1 h.2.2.2.2
theorem DV(h:∃ a,∃ b,∃ c,∃ d,∃ e,u0 a b c d e/\u1 a b c d e/\u2 a b c d e/\u3 a b c d e/\u4 a b c d e/\u5 a b c d e)(k:∀ a,∀ b,∀ c,∀ d,∀ e,u0 a b c d e->u1 a b c d e->u2 a b c d e->u3 a b c d e->u4 a b c d e->u5 a b c d e->G):G:=h.elim λa h=>h.elim λb h=>h.elim λc h=>h.elim λd h=>h.elim λe h=>k a b c d e h.1 h.2.1 h.2.2.1 h.2.2.2.1 h.2.2.2.2.1 h.2.2.2.2.2
theorem DL(h:∃ a,∃ b,∃ c,∃ d,∃ e,u0 a b c d e/\u1 a b c d e/\u2 a b c d e/\u3 a b c d e/\u4 a b c d e/\u5 a b c d e/\u6 a b c d e/\u7 a b c d e/\u8 a b c d e)(k:∀ a,∀ b,∀ c,∀ d,∀ e,u0 a b c d e->u1 a b c d e->u2 a b c d e->u3 a b c d e->u4 a b c d e->u5 a b c d e->u6 a b c d e->u7 a b c d e->u8 a b c d e->G):G:=h.elim λa h=>h.elim λb h=>h.elim λc h=>h.elim λd h=>h.elim λe h=>k a b c d e h.1 h.2.1 h.2.2.1 h.2.2.2.1 h.2.2.2.2.1 h.2.2.2.2.2.1 h.2.2.2.2.2.2.1 h.2.2.2.2.2.2.2.1 h.2.2.2.2.2.2.2.2
theorem OZ(h:∃ a,∃ b,∃ c,∃ d,t0 a b c d/\t1 a b c d/\t2 a b c d/\t3 a b c d/\t4 a b c d/\t5 a b c d/\t6 a b c d/\t7 a b c d/\t8 a b c d/\t9 a b c d/\yl a b c d)(k:∀ a,∀ b,∀ c,∀ d,t0 a b c d->t1 a b c d->t2 a b c d->t3 a b c d->t4 a b c d->t5 a b c d->t6 a b c d->t7 a b c d->t8 a b c d->t9 a b c d->yl a b c d->G):G:=h.elim λa h=>h.elim λb h=>h.elim λc h=>h.elim λd h=>k a b c d h.1 h.2.1 h.2.2.1 h.2.2.2.1 h.2.2.2.2.1 h.2.2.2.2.2.1 h.2.2.2.2.2.2.1 h.2.2.2.2.2.2.2.1 h.2.2.2.2.2.2.2.2.1 h.2.2.2.2.2.2.2.2.2.1 h.2.2.2.2.2.2.2.2.2.2
theorem O0(h:∃ a,∃ b,∃ c,∃ d,∃ e,u0 a b c d e/\u1 a b c d e/\u2 a b c d e/\u3 a b c d e/\u4 a b c d e/\u5 a b c d e/\u6 a b c d e/\u7 a b c d e/\u8 a b c d e/\u9 a b c d e)(k:∀ a,∀ b,∀ c,∀ d,∀ e,u0 a b c d e->u1 a b c d e->u2 a b c d e->u3 a b c d e->u4 a b c d e->u5 a b c d e->u6 a b c d e->u7 a b c d e->u8 a b c d e->u9 a b c d e->G):G:=h.elim λa h=>h.elim λb h=>h.elim λc h=>h.elim λd h=>h.elim λe h=>k a b c d e h.1 h.2.1 h.2.2.1 h.2.2.2.1 h.2.2.2.2.1 h.2.2.2.2.2.1 h.2.2.2.2.2.2.1 h.2.2.2.2.2.2.2.1 h.2.2.2.2.2.2.2.2.1 h.2.2.2.2.2.2.2.2.2
theorem OV(h:∃ a,∃ b,∃ c,s0 a b c/\s1 a b c/\s2 a b c/\s3 a b c/\∃ d,t0 a b c d/\t1 a b c d/\t2 a b c d/\t3 a b c d/\t4 a b c d/\t5 a b c d/\t6 a b c d/\t7 a b c d)(k:∀ a,∀ b,∀ c,s0 a b c->s1 a b c->s2 a b c->s3 a b c->∀ d,t0 a b c d->t1 a b c d->t2 a b c d->t3 a b c d->t4 a b c d->t5 a b c d->t6 a b c d->t7 a b c d->G):G:=h.elim λa g=>g.elim λb i=>i.elim λc f=>f.2.2.2.2.elim λd e=>k a b c f.1 f.2.1 f.2.2.1 f.2.2.2.1 d e.1 e.2.1 e.2.2.1 e.2.2.2.1 e.2.2.2.2.1 e.2.2.2.2.2.1 e.2.2.2.2.2.2.1 e.2.2.2.2.2.2.2
theorem bH(a:p0)(b:p1)(c:p2):p0/\p1/\p2:=⟨a,b,c⟩
theorem Lu(b:p0)(a)(c:q0 a):p0/\∃ a,q0 a:=⟨b,a,c⟩
theorem ay(a)(b:q0 a)(c:q1 a):∃ a,q0 a/\q1 a:=⟨a,b,c⟩
theorem Lv(a)(b)(c:r0 a b):∃ a,∃ b,r0 a b:=⟨a,b,c⟩
theorem j5(a:p0)(b:p1)(c:p2)(d:p3):p0/\p1/\p2/\p3:=⟨a,b,c,d⟩
theorem wb(b:p0)(a)(c:q0 a)(d:q1 a):p0/\∃ a,q0 a/\q1 a:=⟨b,a,c,d⟩
theorem XS(c:p0)(a)(b)(d:r0 a b):p0/\∃ a,∃ b,r0 a b:=⟨c,a,b,d⟩
theorem dI(a)(b:q0 a)(c:q1 a)(d:q2 a):∃ a,q0 a/\q1 a/\q2 a:=⟨a,b,c,d⟩
theorem gJ(a)(b)(c:r0 a b)(d:r1 a b):∃ a,∃ b,r0 a b/\r1 a b:=⟨a,b,c,d⟩
theorem Gg(b:p0)(a)(c:q0 a)(d:q1 a)(e:q2 a):p0/\∃ a,q0 a/\q1 a/\q2 a:=⟨b,a,c,d,e⟩
theorem Ag(c:p0)(a)(b)(d:r0 a b)(e:r1 a b):p0/\∃ a,∃ b,r0 a b/\r1 a b:=⟨c,a,b,d,e⟩
theorem nT(a)(b:q0 a)(c:q1 a)(d:q2 a)(e:q3 a):∃ a,q0 a/\q1 a/\q2 a/\q3 a:=⟨a,b,c,d,e⟩
theorem fC(a)(c:q0 a)(d:q1 a)(b)(e:r0 a b):∃ a,q0 a/\q1 a/\∃ b,r0 a b:=⟨a,c,d,b,e⟩
theorem bB(a)(b)(c:r0 a b)(d:r1 a b)(e:r2 a b):∃ a,∃ b,r0 a b/\r1 a b/\r2 a b:=⟨a,b,c,d,e⟩
theorem vS(a)(b)(c)(d:s0 a b c)(e:s1 a b c):∃ a,∃ b,∃ c,s0 a b c/\s1 a b c:=⟨a,b,c,d,e⟩
theorem nU(a)(b)(c)(d)(e:t0 a b c d):∃ a,∃ b,∃ c,∃ d,t0 a b c d:=⟨a,b,c,d,e⟩
theorem Fo(a:p0)(b:p1)(c:p2)(d:p3)(e:p4)(f:p5):p0/\p1/\p2/\p3/\p4/\p5:=⟨a,b,c,d,e,f⟩
theorem nM(c:p0)(a)(b)(d:r0 a b)(e:r1 a b)(f:r2 a b):p0/\∃ a,∃ b,r0 a b/\r1 a b/\r2 a b:=⟨c,a,b,d,e,f⟩
theorem Ug(a)(b:q0 a)(c:q1 a)(d:q2 a)(e:q3 a)(f:q4 a):∃ a,q0 a/\q1 a/\q2 a/\q3 a/\q4 a:=⟨a,b,c,d,e,f⟩
theorem pY(a)(b)(c:r0 a b)(d:r1 a b)(e:r2 a b)(f:r3 a b):∃ a,∃ b,r0 a b/\r1 a b/\r2 a b/\r3 a b:=⟨a,b,c,d,e,f⟩
theorem dx(a)(b)(c)(d:s0 a b c)(e:s1 a b c)(f:s2 a b c):∃ a,∃ b,∃ c,s0 a b c/\s1 a b c/\s2 a b c:=⟨a,b,c,d,e,f⟩
theorem EG(a)(b:q0 a)(c:q1 a)(d:q2 a)(e:q3 a)(f:q4 a)(g:q5 a):∃ a,q0 a/\q1 a/\q2 a/\q3 a/\q4 a/\q5 a:=⟨a,b,c,d,e,f,g⟩
theorem RK(a)(d:q0 a)(b)(c)(e:s0 a b c)(f:s1 a b c)(g:s2 a b c):∃ a,q0 a/\∃ b,∃ c,s0 a b c/\s1 a b c/\s2 a b c:=⟨a,d,b,c,e,f,g⟩
theorem vx(a)(b)(c:r0 a b)(d:r1 a b)(e:r2 a b)(f:r3 a b)(g:r4 a b):∃ a,∃ b,r0 a b/\r1 a b/\r2 a b/\r3 a b/\r4 a b:=⟨a,b,c,d,e,f,g⟩
theorem l7(a)(b)(c)(d:s0 a b c)(e:s1 a b c)(f:s2 a b c)(g:s3 a b c):∃ a,∃ b,∃ c,s0 a b c/\s1 a b c/\s2 a b c/\s3 a b c:=⟨a,b,c,d,e,f,g⟩
theorem RL(a)(b)(c)(d)(e)(f)(g:v0 a b c d e f):∃ a,∃ b,∃ c,∃ d,∃ e,∃ f,v0 a b c d e f:=⟨a,b,c,d,e,f,g⟩
theorem QA(a)(d:q0 a)(e:q1 a)(b)(c)(f:s0 a b c)(g:s1 a b c)(h:s2 a b c):∃ a,q0 a/\q1 a/\∃ b,∃ c,s0 a b c/\s1 a b c/\s2 a b c:=⟨a,d,e,b,c,f,g,h⟩
theorem QB(a)(e:q0 a)(b)(c)(d)(f:t0 a b c d)(g:t1 a b c d)(h:t2 a b c d):∃ a,q0 a/\∃ b,∃ c,∃ d,t0 a b c d/\t1 a b c d/\t2 a b c d:=⟨a,e,b,c,d,f,g,h⟩
theorem vp(a)(b)(c:r0 a b)(d:r1 a b)(e:r2 a b)(f:r3 a b)(g:r4 a b)(h:r5 a b):∃ a,∃ b,r0 a b/\r1 a b/\r2 a b/\r3 a b/\r4 a b/\r5 a b:=⟨a,b,c,d,e,f,g,h⟩
theorem zi(a)(b)(c)(d:s0 a b c)(e:s1 a b c)(f:s2 a b c)(g:s3 a b c)(h:s4 a b c):∃ a,∃ b,∃ c,s0 a b c/\s1 a b c/\s2 a b c/\s3 a b c/\s4 a b c:=⟨a,b,c,d,e,f,g,h⟩
theorem pP(a)(b)(c)(d)(e:t0 a b c d)(f:t1 a b c d)(g:t2 a b c d)(h:t3 a b c d):∃ a,∃ b,∃ c,∃ d,t0 a b c d/\t1 a b c d/\t2 a b c d/\t3 a b c d:=⟨a,b,c,d,e,f,g,h⟩
theorem rZ(a)(b:q0 a)(c:q1 a)(d:q2 a)(e:q3 a)(f:q4 a)(g:q5 a)(h:q6 a)(i:q7 a):∃ a,q0 a/\q1 a/\q2 a/\q3 a/\q4 a/\q5 a/\q6 a/\q7 a:=⟨a,b,c,d,e,f,g,h,i⟩
theorem PW(a)(b)(c:r0 a b)(d:r1 a b)(e:r2 a b)(f:r3 a b)(g:r4 a b)(h:r5 a b)(i:r6 a b):∃ a,∃ b,r0 a b/\r1 a b/\r2 a b/\r3 a b/\r4 a b/\r5 a b/\r6 a b:=⟨a,b,c,d,e,f,g,h,i⟩
theorem PX(a)(b)(c)(d:s0 a b c)(e:s1 a b c)(f:s2 a b c)(g:s3 a b c)(h:s4 a b c)(i:s5 a b c):∃ a,∃ b,∃ c,s0 a b c/\s1 a b c/\s2 a b c/\s3 a b c/\s4 a b c/\s5 a b c:=⟨a,b,c,d,e,f,g,h,i⟩
theorem ze(a)(b)(c)(d)(e:t0 a b c d)(f:t1 a b c d)(g:t2 a b c d)(h:t3 a b c d)(i:t4 a b c d):∃ a,∃ b,∃ c,∃ d,t0 a b c d/\t1 a b c d/\t2 a b c d/\t3 a b c d/\t4 a b c d:=⟨a,b,c,d,e,f,g,h,i⟩
theorem PB(a)(b)(c:r0 a b)(d:r1 a b)(e:r2 a b)(f:r3 a b)(g:r4 a b)(h:r5 a b)(i:r6 a b)(j:r7 a b):∃ a,∃ b,r0 a b/\r1 a b/\r2 a b/\r3 a b/\r4 a b/\r5 a b/\r6 a b/\r7 a b:=⟨a,b,c,d,e,f,g,h,i,j⟩
theorem PC(a)(b)(f:r0 a b)(c)(d)(e)(g:u0 a b c d e)(h:u1 a b c d e)(i:u2 a b c d e)(j:u3 a b c d e):∃ a,∃ b,r0 a b/\∃ c,∃ d,∃ e,u0 a b c d e/\u1 a b c d e/\u2 a b c d e/\u3 a b c d e:=⟨a,b,f,c,d,e,g,h,i,j⟩
theorem PD(a)(b)(c)(d:s0 a b c)(e:s1 a b c)(f:s2 a b c)(g:s3 a b c)(h:s4 a b c)(i:s5 a b c)(j:s6 a b c):∃ a,∃ b,∃ c,s0 a b c/\s1 a b c/\s2 a b c/\s3 a b c/\s4 a b c/\s5 a b c/\s6 a b c:=⟨a,b,c,d,e,f,g,h,i,j⟩
theorem vj(a)(b)(c)(d)(e:t0 a b c d)(f:t1 a b c d)(g:t2 a b c d)(h:t3 a b c d)(i:t4 a b c d)(j:t5 a b c d):∃ a,∃ b,∃ c,∃ d,t0 a b c d/\t1 a b c d/\t2 a b c d/\t3 a b c d/\t4 a b c d/\t5 a b c d:=⟨a,b,c,d,e,f,g,h,i,j⟩
theorem Pj(a)(b)(c)(d)(e)(f:u0 a b c d e)(g:u1 a b c d e)(h:u2 a b c d e)(i:u3 a b c d e)(j:u4 a b c d e)(k:u5 a b c d e)(l:u6 a b c d e):∃ a,∃ b,∃ c,∃ d,∃ e,u0 a b c d e/\u1 a b c d e/\u2 a b c d e/\u3 a b c d e/\u4 a b c d e/\u5 a b c d e/\u6 a b c d e:=⟨a,b,c,d,e,f,g,h,i,j,k,l⟩
theorem Pk(a)(b)(c)(d)(e)(f)(g)(h:w0 a b c d e f g)(i:w1 a b c d e f g)(j:w2 a b c d e f g)(k:w3 a b c d e f g)(l:w4 a b c d e f g):∃ a,∃ b,∃ c,∃ d,∃ e,∃ f,∃ g,w0 a b c d e f g/\w1 a b c d e f g/\w2 a b c d e f g/\w3 a b c d e f g/\w4 a b c d e f g:=⟨a,b,c,d,e,f,g,h,i,j,k,l⟩
theorem O8(a)(g:q0 a)(b)(c)(d)(e)(f)(h:v0 a b c d e f)(i:v1 a b c d e f)(j:v2 a b c d e f)(k:v3 a b c d e f)(l:v4 a b c d e f)(m:v5 a b c d e f)(n:v6 a b c d e f):∃ a,q0 a/\∃ b,∃ c,∃ d,∃ e,∃ f,v0 a b c d e f/\v1 a b c d e f/\v2 a b c d e f/\v3 a b c d e f/\v4 a b c d e f/\v5 a b c d e f/\v6 a b c d e f:=⟨a,g,b,c,d,e,f,h,i,j,k,l,m,n⟩
theorem O9(a)(b)(c)(d)(e)(f:u0 a b c d e)(g:u1 a b c d e)(h:u2 a b c d e)(i:u3 a b c d e)(j:u4 a b c d e)(k:u5 a b c d e)(l:u6 a b c d e)(m:u7 a b c d e)(n:u8 a b c d e):∃ a,∃ b,∃ c,∃ d,∃ e,u0 a b c d e/\u1 a b c d e/\u2 a b c d e/\u3 a b c d e/\u4 a b c d e/\u5 a b c d e/\u6 a b c d e/\u7 a b c d e/\u8 a b c d e:=⟨a,b,c,d,e,f,g,h,i,j,k,l,m,n⟩
theorem O1(a)(b)(c)(d)(e:t0 a b c d)(f:t1 a b c d)(g:t2 a b c d)(h:t3 a b c d)(i:t4 a b c d)(j:t5 a b c d)(k:t6 a b c d)(l:t7 a b c d)(m:t8 a b c d)(n:t9 a b c d)(o:yl a b c d):∃ a,∃ b,∃ c,∃ d,t0 a b c d/\t1 a b c d/\t2 a b c d/\t3 a b c d/\t4 a b c d/\t5 a b c d/\t6 a b c d/\t7 a b c d/\t8 a b c d/\t9 a b c d/\yl a b c d:=⟨a,b,c,d,e,f,g,h,i,j,k,l,m,n,o⟩
theorem O2(a)(b)(c)(d)(e)(f:u0 a b c d e)(g:u1 a b c d e)(h:u2 a b c d e)(i:u3 a b c d e)(j:u4 a b c d e)(k:u5 a b c d e)(l:u6 a b c d e)(m:u7 a b c d e)(n:u8 a b c d e)(o:u9 a b c d e):∃ a,∃ b,∃ c,∃ d,∃ e,u0 a b c d e/\u1 a b c d e/\u2 a b c d e/\u3 a b c d e/\u4 a b c d e/\u5 a b c d e/\u6 a b c d e/\u7 a b c d e/\u8 a b c d e/\u9 a b c d e:=⟨a,b,c,d,e,f,g,h,i,j,k,l,m,n,o⟩
theorem OT(a)(b)(c)(d)(e)(f)(g)(h)(i)(j:z0 a b c d e f g h i)(k:z1 a b c d e f g h i)(l:z2 a b c d e f g h i)(m:z3 a b c d e f g h i)(n:z4 a b c d e f g h i)(o:z5 a b c d e f g h i)(p:z6 a b c d e f g h i)(q:z7 a b c d e f g h i)(r:z8 a b c d e f g h i)(s:z9 a b c d e f g h i):∃ a,∃ b,∃ c,∃ d,∃ e,∃ f,∃ g,∃ h,∃ i,z0 a b c d e f g h i/\z1 a b c d e f g h i/\z2 a b c d e f g h i/\z3 a b c d e f g h i/\z4 a b c d e f g h i/\z5 a b c d e f g h i/\z6 a b c d e f g h i/\z7 a b c d e f g h i/\z8 a b c d e f g h i/\z9 a b c d e f g h i:=⟨a,b,c,d,e,f,g,h,i,j,k,l,m,n,o,p,q,r,s⟩
end
inductive O:Type where
 |none|bool (b:Bool)|int (i:Int)|str (s:Str)
 |tup (vs:List O)
 |hl (vs:List O)
 |may (c:Nat)(v:O)
 |ref (i:Nat)
 |glob (a:aep)
 |ty (f k:Nat)
 |ck (f:aep)(self:O)
 |bY (id:Nat)(aK:List (Nat×Nat))
 |bR
 |fk (C:aep)
 deriving Inhabited
inductive AO:Type where
 |list (vs:List O)
 |dict (es:List (Str×O))
 |obj (C:aep)(es:List (Str×O))
 |own
 |cell (v:Option O)
 |src (k:Nat)
 |any
 |tab (P:Nat)(q:Str)
 deriving Inhabited
structure mS where
 param:Str
 body:FuncBody
 scope:aft
structure KT where
 K:afM
 θ:Nat->Nat->O
 cond:Nat->Bool
 src:List (aep×List aec)
 bY:Nat->Option mS
noncomputable abbrev Led:=List (aep×Obj)
noncomputable def lk{α:Type}(n:Nat) (l:List (Nat×α)):Option α:=aeC none (λe b a=>aen a (some e.2) (aem n e.1)) l
theorem eC{α:Type}{e:Nat×α}{l:List (Nat×α)}:lk n (e::l)=if n=e.1 then some e.2 else lk n l:=by
 show aen (motive:=λa=>Option α) (lk n l) (some e.2) (aem n e.1)=_
 induction q:aem n e.1 using aee with
 |false=>rw[if_neg λh=>by rw[h,afz]at q;exact gr q]
 |true=>rw[if_pos (aed q)]
noncomputable def gj (sc:aft)(α:List aep)(b:List (Nat×Nat))(c:List (Str×aep)):Prop:=∀ n i,lk n b=some i->∃ x k a,sc.names[n]?=some (x,k)/\c.lookup x=some a/\α[i]?=some a
noncomputable def i7 (α:List aep)(N:Led)(d:aec)(e:Str):Prop:=∃ a b c t,d=.ref a/\(a,b)∈N/\a∉α/\b.data=.fields c/\c[1]?=some (.str e t)
noncomputable def qr (α:List aep)(N:Led)(o:Obj)(d:mS)(b:List (Nat×Nat)):Prop:=
 ∃ a:ahx,o.data=.func a/\a.body=d.body/\a.scope=d.scope/\a.globals=ae1/\a.builtins=agG/\(∀ v,agC a ⟨[v],[]⟩=pure [(d.param,v)])/\i7 α N a.code a.qualname/\gj d.scope α b a.closure
mutual
inductive VR (T:KT) (α:List aep) (N:Led):aec->O->Prop
 |none:VR T α N .none .none
 |bool (b):VR T α N (.bool b) (.bool b)
 |int (i t):VR T α N (.int i t) (.int i)
 |str{x}(t):afg x=true->VR T α N (.str x t) (.str x)
 |tup{a o vs n eE}:(a,o)∈N->a∉α->(o.cls=.type "tuple" /\o.dict=none)->o.data=.seq vs.toArray n->ah T α N vs eE->VR T α N (.ref a) (.tup eE)
 |tupK{a vs n sl eE}:T.K.lookup a=some ⟨.type "tuple",none,.seq vs.toArray n,sl⟩->ah T α N vs eE->VR T α N (.ref a) (.tup eE)
 |hl{a vs n eE}:(a,W.listOf vs.toArray n)∈N->a∉α->ah T α N vs eE->VR T α N (.ref a) (.hl eE)
 |ref{a i}:α[i]?=some a->VR T α N (.ref a) (.ref i)
 |glob (a):VR T α N (.ref a) (.glob a)
 |ty{v f k}:VR T α N v (T.θ f k)->VR T α N v (.ty f k)
 |ck{a f v self}:(a,methodObj (.ref f) v)∈N->a∉α->VR T α N v self->VR T α N (.ref a) (.ck f self)
 |bY{a o id d aK}:(a,o)∈N->a∉α->T.bY id=some d->qr α N o d aK->VR T α N (.ref a) (.bY id aK)
 |bR{v}:ahS v=true->VR T α N v .bR
 |fk{a o C}:(a,o)∈N->a∉α->o.cls=.ref C->VR T α N (.ref a) (.fk C)
inductive ah (T:KT) (α:List aep) (N:Led):List aec->List O->Prop
 |nil:ah T α N [] []
 |cons{v av vs eE}:VR T α N v av->ah T α N vs eE->ah T α N (v::vs) (av::eE)
 |yes{v av vs eE c}:T.cond c=true->VR T α N v av->ah T α N vs eE->ah T α N (v::vs) (.may c av::eE)
 |no{av vs eE c}:T.cond c=false->ah T α N vs eE->ah T α N vs (.may c av::eE)
end
noncomputable def VI (T:KT) (α:List aep) (N:Led) (v:aec) (a:O):Prop:=O.casesOn (motive_1:=λe=>Prop) a (v=.none) (λb=>v=.bool b) (λi=>∃ t,v=.int i t) (λx=>∃ t,v=.str x t/\afg x=true)
 (λl=>(∃ a o c n,v=.ref a/\(a,o)∈N/\a∉α/\(o.cls=.type "tuple" /\o.dict=none)/\o.data=.seq c.toArray n/\ah T α N c l)\/∃ a c n g,v=.ref a/\T.K.lookup a=some ⟨.type "tuple",none,.seq c.toArray n,g⟩/\ah T α N c l)
 (λl=>∃ a c n,v=.ref a/\(a,W.listOf c.toArray n)∈N/\a∉α/\ah T α N c l) (λe e=>False) (λi=>∃ a,v=.ref a/\α[i]?=some a) (λa=>v=.ref a) (λf k=>VR T α N v (T.θ f k))
 (λf self=>∃ a u,v=.ref a/\(a,methodObj (.ref f) u)∈N/\a∉α/\VR T α N u self) (λid h=>∃ a o d,v=.ref a/\(a,o)∈N/\a∉α/\T.bY id=some d/\qr α N o d h) (ahS v=true)
 (λC=>∃ a o,v=.ref a/\(a,o)∈N/\a∉α/\o.cls=.ref C)
theorem VR.inv(h:VR T α N v a):VI T α N v a:=by
 induction h using VR.casesOn with
 |none=>exact rfl
 |bool=>exact rfl
 |int i t=>exact ⟨t,rfl⟩
 |str t h=>exact ⟨t,rfl,h⟩
 |tup b c d e f=>exact .inl ⟨_,_,_,_,rfl,b,c,d,e,f⟩
 |tupK b c=>exact .inr ⟨_,_,_,_,rfl,b,c⟩
 |hl b c d=>exact ⟨_,_,_,rfl,b,c,d⟩
 |ref h=>exact ⟨_,rfl,h⟩
 |glob=>exact rfl
 |ty h=>exact h
 |ck b c d=>exact ⟨_,_,rfl,b,c,d⟩
 |bY b c d e=>exact ⟨_,_,_,rfl,b,c,d,e⟩
 |bR h=>exact h
 |fk b c d=>exact(pY _ _ rfl b c d)
section
variable{T:KT}{α:List aep}{N:Led}{v:aec}
theorem VR.VW{M:∀ v,VR T α N v .none->Prop}(none:M .none .none)(h:VR T α N v .none):M v h:=by
 have e:v=.none:=h.inv;subst e;exact none
theorem VR.VX{M:∀ v,VR T α N v (.bool b)->Prop}(bool:M (.bool b) (.bool b)) (h:VR T α N v (.bool b)):M v h:=by
 have e:v=.bool b:=h.inv;subst e;exact bool
theorem VR.XT{M:∀ v,VR T α N v (.int i)->Prop}(int:∀ t,M (.int i t) (.int i t)) (h:VR T α N v (.int i)):M v h:=by
 refine aL h.inv λt e=>?_
 subst e;exact int t
theorem VR.XU{M:∀ v,VR T α N v (.str x)->Prop}(str:∀ t a,M (.str x t) (.str t a)) (h:VR T α N v (.str x)):M v h:=by
 refine Y h.inv λt e a=>?_
 subst e;exact str t a
theorem VR.XW{M:∀ v,VR T α N v (.tup l)->Prop}(tup:∀ {a o vs n}(b c d f g),M (.ref a) (.tup (o:=o) (vs:=vs) (n:=n) b c d f g)) (tupK:∀ {a vs n sl}(b c),M (.ref a) (.tupK (vs:=vs) (n:=n) (sl:=sl) b c)) (h:VR T α N v (.tup l)):M v h:=by
 obtain⟨a,o,vs,n,e,b,c,d,f,g⟩|⟨a,vs,n,sl,e,b,c⟩:=h.inv
 ·subst e;exact tup b c d f g
 ·subst e;exact tupK b c
theorem VR.xe{M:∀ v,VR T α N v (.hl l)->Prop}(hl:∀ {a vs n}(b c d),M (.ref a) (.hl (vs:=vs) (n:=n) b c d)) (h:VR T α N v (.hl l)):M v h:=by
 refine gC h.inv λa vs n e b c d=>?_
 subst e;exact hl b c d
theorem ah.XX{M:∀ vs,ah T α N vs []->Prop}(nil:M [] .nil)(h:ah T α N vs []):M vs h:=by cases h;exact nil
theorem ah.Gh{M:∀ vs a l,ah T α N vs (a::l)->Prop}(cons:∀ {v av vs e}(b d),M (v::vs) av e (.cons b d)) (yes:∀ {v av vs e c}(b d f),M (v::vs) (.may c av) e (.yes b d f)) (no:∀ {av vs e c}(b d),M vs (.may c av) e (.no b d)) (h:ah T α N vs (a::l)):M vs a l h:=by
 cases h with
 |cons b d=>exact cons b d
 |yes b d f=>exact yes b d f
 |no b d=>exact no b d
end
structure Ge (α:List aep)(N:Led)(bG:List aep)(N':Led):Prop where
 pre:α <+:bG
 keep:∀ p∈N,p.1∉α->p∈N'
 new:∀ a∈bG,a∈α\/a∉N.map (·.1)
 tab:∀ P ps,(P,afe ps)∈N->∃ pd,(P,afe pd)∈N'
theorem Ge.refl:Ge α N α N:=⟨afA _,λa h a=>h,λa h=>.inl h,λa b h=>⟨b,h⟩⟩
theorem Ge.away (g:Ge α N a d)(b:p∈N)(c:p.1∉α):p.1∉a:=λh=>
 (g.new _ h).elim c λh=>h (aew b)
theorem Ge.trans (g:Ge α N f i) (c:Ge f i j k):Ge α N j k:=
 ⟨g.pre.trans c.pre,λp h a=>c.keep p (g.keep p h a) (g.away h a),λa h=>by
  rcases c.new a h with b|b
  ·exact g.new a b
  ·by_cases d:a∈α
   ·exact .inl d
   ·right;intro e;refine Y (aeG.mp e) ?_;clear e;intro p l m;subst m;exact b (aew (g.keep p l d)),λP n h=>(aL (g.tab P n h) λo b=>c.tab P o b)⟩
theorem i7.mono (g:Ge α N c d) (h:i7 α N v q):i7 c d v q:=
 (pO (h) λe f i t j a b k=>(pP e f i t j (g.keep _ a b) (g.away a b) k))
theorem Ge.at{α N b c}(g:Ge α N b c){i:Nat}{a:aep}(h:α[i]?=some a):b[i]?=some a:=by
 refine aL g.pre ?_;clear g;intro t d;rw[←d];exact (ahN (aeV.mp h).1).trans h
theorem gj.mono{sc α N d k f j}(g:Ge α N d k) (h:gj sc α f j):gj sc d f j:=λx i e=>(cg (h x i e) λa b c l m n=>(dx a b c l m (g.at n)))
theorem qr.mono (g:Ge α N a b) (h:qr α N o d c):qr a b o d c:=
 (vk (h) λe f i j k l m n p=>(rZ e f i j k l m (n.mono g) (p.mono g)))
theorem VR.mono{K α N c d}(g:Ge α N c d){v av}(h:VR K α N v av):VR K c d v av:=
 VR.rec (motive_1:=λv av b=>VR K c d v av) (motive_2:=λf i b=>ah K c d f i) .none .bool .int .str (λh a j k b r=>.tup (g.keep _ h a) (g.away h a) j k r) (λh b r=>.tupK h r) (λh a b r=>.hl (g.keep _ h a) (g.away h a) r) (λh=>.ref (g.at h)) .glob (λb h=>.ty h) (λh a b r=>.ck (g.keep _ h a) (g.away h a) r) (λh a e r=>.bY (g.keep _ h a) (g.away h a) e (r.mono g)) .bR (λh a e=>.fk (g.keep _ h a) (g.away h a) e) .nil (λb b h r=>.cons h r) (λe b b h r=>.yes e h r) (λe b r=>.no e r) h
theorem ah.ind{P:List aec->List O->Prop}(nil:P [] []) (cons:∀ {v av vs b},VR T α N v av->ah T α N vs b->P vs b->P (v::vs) (av::b)) (yes:∀ {v av vs b c},T.cond c=true->VR T α N v av->ah T α N vs b->P vs b->P (v::vs) (.may c av::b)) (no:∀ {av vs b c},T.cond c=false->ah T α N vs b->P vs b->P vs (.may c av::b)) (h:ah T α N vs l):P vs l:=
 ah.rec (motive_1:=λa a a=>True) (motive_2:=λvs l a=>P vs l) trivial (λa=>trivial) (λa a=>trivial) (λa a=>trivial) (λa a a a a a=>trivial) (λa a a=>trivial) (λa a a a=>trivial) (λa=>trivial) (λa=>trivial) (λa a=>trivial) (λa a a a=>trivial) (λa a a a=>trivial) (λa=>trivial) (λa a a=>trivial) nil (λh r a d=>cons h r d) (λe h r a d=>yes e h r d) (λe r d=>no e r d) h
theorem ah.mono{K α N b c}(g:Ge α N b c){vs a}(h:ah K α N vs a):ah K b c vs a:=ah.ind (P:=λvs a=>ah K b c vs a) .nil (λh d r=>.cons (h.mono g) r) (λe h d r=>.yes e (h.mono g) r) (λe d r=>.no e r) h
theorem ah.le{K α N vs b}(h:ah K α N vs b):vs.length<=b.length:=ah.ind (P:=λvs b=>vs.length<=b.length) (aeu _) (λa a r=>af6 r) (λa a a r=>af6 r) (λa a r=>agX r) h
theorem ah.app{K α N vs b c d}(h:ah K α N vs b) (h':ah K α N c d):ah K α N (vs++c) (b++d):=ah.ind (P:=λvs b=>ah K α N (vs++c) (b++d)) h' (λa f r=>.cons a r) (λe a f r=>.yes e a r) (λe f r=>.no e r) h
noncomputable def O.sure:O->Bool
 |.may a b=>false
 |_=>true
noncomputable def aeS(l:List O):Bool:=l.all O.sure
theorem vy (h:aeS (a::l)=true):aeS l=true:=(ad9.mp (h:and a.sure (aeS l)=true)).2
theorem iu{P:Prop}(h:aeS (.may c v::l)=true):P:=nomatch (h:false=true)
theorem ah.len{K α N vs b}(h:ah K α N vs b):aeS b=true->vs.length=b.length:=ah.ind (P:=λvs b=>aeS b=true->vs.length=b.length) (λa=>rfl) (λa a r p=>congrArg (·+1) (r (vy p))) (λa a a a=>iu) (λa a a=>iu) h
theorem ah.at{K α N vs c}(h:ah K α N vs c):aeS c=true->∀ (i:Nat) (a:O),c[i]?=some a->∃ v,vs[i]?=some v/\VR K α N v a:=
 ah.ind (P:=λvs c=>aeS c=true->∀ (i:Nat) (a:O),c[i]?=some a->∃ v,vs[i]?=some v/\VR K α N v a) (λb b b e=>nomatch e) (λh b r p i a e=>by induction i using aez with
  |zero=>have d:=aea e;subst a;exact⟨_,rfl,h⟩
  |succ i=>exact r (vy p) i a e) (λb b b b=>iu) (λb b b=>iu) h
theorem ah.nil_inv (h:ah T α N vs []):vs=[]:=ah.XX (M:=λvs a=>vs=[]) rfl h
theorem ah.cj (h:ah T α N vs (a::l)):a.sure=true->∃ v c,vs=v::c/\VR T α N v a/\ah T α N c l:=
 ah.Gh (M:=λvs a l b=>a.sure=true->∃ v c,vs=v::c/\VR T α N v a/\ah T α N c l) (λd f b=>(bB _ _ rfl d f)) (λb b b e=>nomatch (show false=true from e)) (λb b e=>nomatch (show false=true from e)) h
theorem ah.pZ (h:ah T α N vs (.may c a::l)):(T.cond c=true/\∃ v d,vs=v::d/\VR T α N v a/\ah T α N d l)\/(T.cond c=false/\ah T α N vs l):=
 ah.Gh (M:=λvs b l i=>b=.may c a->(T.cond c=true/\∃ v d,vs=v::d/\VR T α N v a/\ah T α N d l)\/(T.cond c=false/\ah T α N vs l)) (λf i e=>((e▸f).inv:False).elim) (λe f g q=>by cases q;exact .inl (nM e _ _ rfl f g)) (λe g q=>by cases q;exact .inr ⟨e,g⟩) h rfl
noncomputable def below (n:Nat):O->Bool:=O.rec (motive_1:=λc=>Bool) (motive_2:=λc=>Bool)
 true (λc=>true) (λc=>true) (λc=>true) (λc d=>d) (λc d=>d) (λc c d=>d) (λi=>afl i n) (λc=>true) (λc c=>true) (λc c d=>d) (λc c=>false) true (λc=>true)
 true (λc c a b=>and a b)
noncomputable def belows (n:Nat):List O->Bool:=aeC true λa c b=>and (below n a) b
theorem pQ:below n (.tup l)=belows n l:=by
 show O.rec_1 (motive_1:=λb=>Bool) (motive_2:=λb=>Bool) _ _ _ _ _ _ _ _ _ _ _ _ _ _ _ _ l=_
 induction l with
 |nil=>rfl
 |cons a l c=>exact congrArg (and (below n a)) c
theorem zz:below n (.hl l)=belows n l:=pQ (n:=n) (l:=l)
inductive aU (K:KT) (α:List aep) (N:Led):List (Str×aec)->List (Str×O)->Prop
 |nil:aU K α N [] []
 |cons{x v av bs abs}:VR K α N v av->aU K α N bs abs->aU K α N ((x,v)::bs) ((x,av)::abs)
theorem aU.mono{K α N a b}(g:Ge α N a b){bs abs}(h:aU K α N bs abs):aU K a b bs abs:=by
 induction h with
 |nil=>exact .nil
 |cons h d c=>exact .cons (h.mono g) c
theorem aU.nil_inv{K α N bs}(h:aU K α N bs []):bs=[]:=by cases h;rfl
theorem aU.cj{K α N bs x av abs}(h:aU K α N bs ((x,av)::abs)):∃ v a,bs=(x,v)::a/\VR K α N v av/\aU K α N a abs:=by cases h with|cons b c=>exact (bB _ _ rfl b c)
inductive bM (P:Params) (K:KT) (α:List aep) (N:Led):List DictEntry->List (Str×O)->Prop
 |nil:bM P K α N [] []
 |cons{x t v av es aes}:VR K α N v av->bM P K α N es aes->bM P K α N (⟨aiN P x,.str x t,v⟩::es) ((x,av)::aes)
theorem bM.mono{P K α N a b}(g:Ge α N a b){c aes}(h:bM P K α N c aes):bM P K a b c aes:=by
 induction h with
 |nil=>exact .nil
 |cons h e d=>exact .cons (h.mono g) d
theorem bM.nil_inv{P K α N bs}(h:bM P K α N bs []):bs=[]:=by cases h;rfl
theorem bM.cj{P K α N a x av aes}(h:bM P K α N a ((x,av)::aes)):∃ t v es',a=⟨aiN P x,.str x t,v⟩::es'/\VR K α N v av/\bM P K α N es' aes:=by cases h with|cons b c=>exact (dx _ _ _ rfl b c)
section
inductive Tr:Type where
 |em|lf(o:AO)|nd(m:Nat)(l r:Tr)
 deriving Inhabited
noncomputable def Tr.get (t:Tr) (i:Nat):Option AO:=Tr.rec (motive:=λa=>Option AO) none (λo=>some o) (λm a a b c=>aen b c (aeQ m i)) t
noncomputable def Tr.set (v:AO) (d:Nat) (t:Tr) (i:Nat):Tr:=Tr.rec (motive:=λa=>Tr) (.lf v) (λa=>.lf v) (λm l r b c=>aen (.nd m b r) (.nd m l c) (aeQ m i)) t
noncomputable def Tr.full (d:Nat):Nat->Tr:=afX (motive:=λc=>Nat->Tr) (λc=>.em) (λd a b=>.nd (ahK b (Nat.pow (nat_lit 2) d)) (a b) (a (ahK b (Nat.pow (nat_lit 2) d)))) d
noncomputable def lJ:Tr:=Tr.full (nat_lit 10) (nat_lit 0)
inductive fm:Nat->Nat->Tr->Prop
 |em{b}:fm 0 b .em
 |lf{b o}:fm 0 b (.lf o)
 |nd{d b l r}:fm d b l->fm d (b+2^d) r->fm (d+1) b (.nd (b+2^d) l r)
noncomputable def Wf(d:Nat)(t:Tr):Prop:=fm d 0 t
theorem Ec{α:Type}{x y:α}:(aen (motive:=λa=>α) x y (aeQ m i))=if m<=i then y else x:=by
 induction q:aeQ m i using aee with
 |false=>rw[if_neg λh=>by rw[aho h]at q;exact gr q]
 |true=>rw[if_pos (aei q)]
theorem nV:(Tr.nd m l r).get i=if m<=i then r.get i else l.get i:=Ec
theorem Gi:Tr.set v d (.nd m l r) i=if m<=i then .nd m l (Tr.set v d r i) else .nd m (Tr.set v d l i) r:=Ec
theorem fm.full:∀ {d b},fm d b (Tr.full d b)
 |0,a=>.em
 |a+1,c=>.nd fm.full fm.full
theorem zA:∀ {d b i},(Tr.full d b).get i=none
 |0,a,c=>rfl
 |d+1,b,i=>by show (Tr.nd _ (Tr.full d b) (Tr.full d (b+2^d))).get i=none;rw[nV,zA,zA];split<;>rfl
theorem ym:Wf 10 lJ:=fm.full
theorem fm.set (w:fm d b t):fm d b (Tr.set v e t i):=by
 induction w with
 |em=>exact .lf
 |lf=>exact .lf
 |nd a c f g=>
  rw[Gi];split
  ·exact .nd a g
  ·exact .nd f c
theorem Wf.set (h:Wf d t):Wf d (Tr.set v d t i):=fm.set h
theorem RM (w:fm d b t):b<=i->i<b+2^d->b<=j->j<b+2^d->(Tr.set v e t i).get j=if j=i then some v else t.get j:=by
 induction w with
 |em=>
  intro g a h c;have:j=i:=by simp at a c;omega
  rw[if_pos this];rfl
 |lf=>
  intro g a h c;have:j=i:=by simp at a c;omega
  rw[if_pos this];rfl
 |nd m n k l=>
  intro g a h c;rw[Nat.pow_succ]at a c;rw[Gi];split
  ·rename_i q;rw[nV,nV];split
   ·rename_i f;exact l q (by omega) f (by omega)
   ·rename_i f;rw[if_neg (by omega)]
  ·rename_i q;rw[nV,nV];split
   ·rename_i f;rw[if_neg (by omega)]
   ·rename_i f;exact k g (by omega) h (by omega)
theorem get_set (h:Wf d t) (a:i<2^d) (b:j<2^d):(Tr.set v d t i).get j=if j=i then some v else t.get j:=
 RM h (afa _) (by simpa using a) (afa _) (by simpa using b)
noncomputable def j1{c:Type}(z:c) (a:O) (f:c):c:=O.casesOn (motive_1:=λb=>c) a f (λb=>z) (λb=>z) (λb=>z) (λb=>z) (λb=>z) (λb b=>z) (λb=>z) (λb=>z) (λb b=>z) (λb b=>z) (λb b=>z) z (λb=>z)
theorem nK{b:Type}{z y₀:b}{f:b}(h:j1 z a f=y₀)(c:y₀≠z):a=.none/\f=y₀:=by induction a using O.casesOn with
 |none=>exact⟨rfl,h⟩
 |_=>exact absurd h.symm c
noncomputable def i8{c:Type}(z:c) (a:O) (f:Bool->c):c:=O.casesOn (motive_1:=λb=>c) a z f (λb=>z) (λb=>z) (λb=>z) (λb=>z) (λb b=>z) (λb=>z) (λb=>z) (λb b=>z) (λb b=>z) (λb b=>z) z (λb=>z)
theorem pR{b:Type}{z y₀:b}{f:Bool->b}(h:i8 z a f=y₀)(c:y₀≠z):∃ x,a=.bool x/\f x=y₀:=by induction a using O.casesOn with
 |bool=>exact⟨_,rfl,h⟩
 |_=>exact absurd h.symm c
noncomputable def dR{c:Type}(z:c) (a:O) (f:Int->c):c:=O.casesOn (motive_1:=λb=>c) a z (λb=>z) f (λb=>z) (λb=>z) (λb=>z) (λb b=>z) (λb=>z) (λb=>z) (λb b=>z) (λb b=>z) (λb b=>z) z (λb=>z)
theorem jT{b:Type}{z y₀:b}{f:Int->b}(h:dR z a f=y₀)(c:y₀≠z):∃ x,a=.int x/\f x=y₀:=by induction a using O.casesOn with
 |int=>exact⟨_,rfl,h⟩
 |_=>exact absurd h.symm c
noncomputable def afD{c:Type}(z:c) (a:O) (f:Str->c):c:=O.casesOn (motive_1:=λb=>c) a z (λb=>z) (λb=>z) f (λb=>z) (λb=>z) (λb b=>z) (λb=>z) (λb=>z) (λb b=>z) (λb b=>z) (λb b=>z) z (λb=>z)
theorem gD{b:Type}{z y₀:b}{f:Str->b}(h:afD z a f=y₀)(c:y₀≠z):∃ x,a=.str x/\f x=y₀:=by induction a using O.casesOn with
 |str=>exact⟨_,rfl,h⟩
 |_=>exact absurd h.symm c
noncomputable def cD{c:Type}(z:c) (a:O) (f:List O->c):c:=O.casesOn (motive_1:=λb=>c) a z (λb=>z) (λb=>z) (λb=>z) f (λb=>z) (λb b=>z) (λb=>z) (λb=>z) (λb b=>z) (λb b=>z) (λb b=>z) z (λb=>z)
theorem dO{b:Type}{z y₀:b}{f:List O->b}(h:cD z a f=y₀)(c:y₀≠z):∃ x,a=.tup x/\f x=y₀:=by induction a using O.casesOn with
 |tup=>exact⟨_,rfl,h⟩
 |_=>exact absurd h.symm c
noncomputable def lp{c:Type}(z:c) (a:O) (f:List O->c):c:=O.casesOn (motive_1:=λb=>c) a z (λb=>z) (λb=>z) (λb=>z) (λb=>z) f (λb b=>z) (λb=>z) (λb=>z) (λb b=>z) (λb b=>z) (λb b=>z) z (λb=>z)
theorem sq{b:Type}{z y₀:b}{f:List O->b}(h:lp z a f=y₀)(c:y₀≠z):∃ x,a=.hl x/\f x=y₀:=by induction a using O.casesOn with
 |hl=>exact⟨_,rfl,h⟩
 |_=>exact absurd h.symm c
noncomputable def jf{c:Type}(z:c) (a:O) (f:Nat->c):c:=O.casesOn (motive_1:=λb=>c) a z (λb=>z) (λb=>z) (λb=>z) (λb=>z) (λb=>z) (λb b=>z) f (λb=>z) (λb b=>z) (λb b=>z) (λb b=>z) z (λb=>z)
theorem i0{b:Type}{z y₀:b}{f:Nat->b}(h:jf z a f=y₀)(c:y₀≠z):∃ x,a=.ref x/\f x=y₀:=by induction a using O.casesOn with
 |ref=>exact⟨_,rfl,h⟩
 |_=>exact absurd h.symm c
noncomputable def qs{c:Type}(z:c) (a:O) (f:aep->c):c:=O.casesOn (motive_1:=λb=>c) a z (λb=>z) (λb=>z) (λb=>z) (λb=>z) (λb=>z) (λb b=>z) (λb=>z) f (λb b=>z) (λb b=>z) (λb b=>z) z (λb=>z)
theorem vq{b:Type}{z y₀:b}{f:aep->b}(h:qs z a f=y₀)(c:y₀≠z):∃ x,a=.glob x/\f x=y₀:=by induction a using O.casesOn with
 |glob=>exact⟨_,rfl,h⟩
 |_=>exact absurd h.symm c
noncomputable def iK{c:Type}(z:c) (a:O) (f:Nat->Nat->c):c:=O.casesOn (motive_1:=λb=>c) a z (λb=>z) (λb=>z) (λb=>z) (λb=>z) (λb=>z) (λb b=>z) (λb=>z) (λb=>z) f (λb b=>z) (λb b=>z) z (λb=>z)
theorem jW{b:Type}{z y₀:b}{f:Nat->Nat->b}(h:iK z a f=y₀)(c:y₀≠z):∃ x y,a=.ty x y/\f x y=y₀:=by induction a using O.casesOn with
 |ty=>exact⟨_,_,rfl,h⟩
 |_=>exact absurd h.symm c
noncomputable def vT{c:Type}(z:c) (a:O) (f:aep->O->c):c:=O.casesOn (motive_1:=λb=>c) a z (λb=>z) (λb=>z) (λb=>z) (λb=>z) (λb=>z) (λb b=>z) (λb=>z) (λb=>z) (λb b=>z) f (λb b=>z) z (λb=>z)
theorem Ed{b:Type}{z y₀:b}{f:aep->O->b}(h:vT z a f=y₀)(c:y₀≠z):∃ x y,a=.ck x y/\f x y=y₀:=by induction a using O.casesOn with
 |ck=>exact⟨_,_,rfl,h⟩
 |_=>exact absurd h.symm c
noncomputable def wc{c:Type}(z:c) (a:O) (f:Nat->List (Nat×Nat)->c):c:=O.casesOn (motive_1:=λb=>c) a z (λb=>z) (λb=>z) (λb=>z) (λb=>z) (λb=>z) (λb b=>z) (λb=>z) (λb=>z) (λb b=>z) (λb b=>z) f z (λb=>z)
theorem zB{b:Type}{z y₀:b}{f:Nat->List (Nat×Nat)->b}(h:wc z a f=y₀)(c:y₀≠z):∃ x y,a=.bY x y/\f x y=y₀:=by induction a using O.casesOn with
 |bY=>exact⟨_,_,rfl,h⟩
 |_=>exact absurd h.symm c
noncomputable def G7{c:Type}(z:c) (a:O) (f:aep->c):c:=O.casesOn (motive_1:=λb=>c) a z (λb=>z) (λb=>z) (λb=>z) (λb=>z) (λb=>z) (λb b=>z) (λb=>z) (λb=>z) (λb b=>z) (λb b=>z) (λb b=>z) z f
theorem RO{b:Type}{z y₀:b}{f:aep->b}(h:G7 z a f=y₀)(c:y₀≠z):∃ x,a=.fk x/\f x=y₀:=by induction a using O.casesOn with
 |fk=>exact⟨_,rfl,h⟩
 |_=>exact absurd h.symm c
noncomputable def gF{c:Type}(z:c) (a:AO) (f:List O->c):c:=AO.casesOn (motive:=λb=>c) a f (λb=>z) (λb b=>z) z (λb=>z) (λb=>z) z (λb b=>z)
theorem pJ{b:Type}{z y₀:b}{f:List O->b}(h:gF z a f=y₀)(c:y₀≠z):∃ x,a=.list x/\f x=y₀:=by induction a using AO.casesOn with
 |list=>exact⟨_,rfl,h⟩
 |_=>exact absurd h.symm c
noncomputable def ix{c:Type}(z:c) (a:AO) (f:List (Str×O)->c):c:=AO.casesOn (motive:=λb=>c) a (λb=>z) f (λb b=>z) z (λb=>z) (λb=>z) z (λb b=>z)
theorem l5{b:Type}{z y₀:b}{f:List (Str×O)->b}(h:ix z a f=y₀)(c:y₀≠z):∃ x,a=.dict x/\f x=y₀:=by induction a using AO.casesOn with
 |dict=>exact⟨_,rfl,h⟩
 |_=>exact absurd h.symm c
noncomputable def mi{c:Type}(z:c) (a:AO) (f:aep->List (Str×O)->c):c:=AO.casesOn (motive:=λb=>c) a (λb=>z) (λb=>z) f z (λb=>z) (λb=>z) z (λb b=>z)
theorem Ee{b:Type}{z y₀:b}{f:aep->List (Str×O)->b}(h:mi z a f=y₀)(c:y₀≠z):∃ x y,a=.obj x y/\f x y=y₀:=by induction a using AO.casesOn with
 |obj=>exact⟨_,_,rfl,h⟩
 |_=>exact absurd h.symm c
noncomputable def Ah{c:Type}(z:c) (a:AO) (f:c):c:=AO.casesOn (motive:=λb=>c) a (λb=>z) (λb=>z) (λb b=>z) f (λb=>z) (λb=>z) z (λb b=>z)
theorem QC{b:Type}{z y₀:b}{f:b}(h:Ah z a f=y₀)(c:y₀≠z):a=.own/\f=y₀:=by induction a using AO.casesOn with
 |own=>exact⟨rfl,h⟩
 |_=>exact absurd h.symm c
noncomputable def p8{c:Type}(z:c) (a:AO) (f:Option O->c):c:=AO.casesOn (motive:=λb=>c) a (λb=>z) (λb=>z) (λb b=>z) z f (λb=>z) z (λb b=>z)
theorem vl{b:Type}{z y₀:b}{f:Option O->b}(h:p8 z a f=y₀)(c:y₀≠z):∃ x,a=.cell x/\f x=y₀:=by induction a using AO.casesOn with
 |cell=>exact⟨_,rfl,h⟩
 |_=>exact absurd h.symm c
noncomputable def sD{c:Type}(z:c) (a:AO) (f:Nat->c):c:=AO.casesOn (motive:=λb=>c) a (λb=>z) (λb=>z) (λb b=>z) z (λb=>z) f z (λb b=>z)
theorem vr{b:Type}{z y₀:b}{f:Nat->b}(h:sD z a f=y₀)(c:y₀≠z):∃ x,a=.src x/\f x=y₀:=by induction a using AO.casesOn with
 |src=>exact⟨_,rfl,h⟩
 |_=>exact absurd h.symm c
noncomputable def Gj{c:Type}(z:c) (a:AO) (f:Nat->Str->c):c:=AO.casesOn (motive:=λb=>c) a (λb=>z) (λb=>z) (λb b=>z) z (λb=>z) (λb=>z) z f
theorem QD{b:Type}{z y₀:b}{f:Nat->Str->b}(h:Gj z a f=y₀)(c:y₀≠z):∃ x y,a=.tab x y/\f x y=y₀:=by induction a using AO.casesOn with
 |tab=>exact⟨_,_,rfl,h⟩
 |_=>exact absurd h.symm c
noncomputable def aD{a b:Type}(z:a)(o:Option b)(f:b->a):a:=aeT z f o
theorem aR{a b:Type}{z y₀:a}{o:Option b}{f:b->a}(h:aD z o f=y₀)(c:y₀≠z):∃ x,o=some x/\f x=y₀:=by induction o using aer with
 |some=>exact⟨_,rfl,h⟩
 |none=>exact absurd h.symm c
noncomputable def Bi{a b:Type}(z:a) (o:Option b) (x:a):a:=aeT x (λc=>z) o
theorem Fp{a b:Type}{z y₀ x:a}{o:Option b}(h:Bi z o x=y₀)(c:y₀≠z):o=none/\x=y₀:=by induction o using aer with
 |none=>exact⟨rfl,h⟩
 |some=>exact absurd h.symm c
noncomputable def rx{a:Type}(z:a)(b:Bool)(x:a):a:=aen x z b
theorem sE{a:Type}{z y₀:a}{x:a}(h:rx z b x=y₀)(c:y₀≠z):b=false/\x=y₀:=by induction b using aee with
 |false=>exact⟨rfl,h⟩
 |true=>exact absurd h.symm c
noncomputable def aN{a:Type}(z:a)(b:Bool)(x:a):a:=aen z x b
theorem aS{a:Type}{z y₀:a}{x:a}(h:aN z b x=y₀)(c:y₀≠z):b=true/\x=y₀:=by induction b using aee with
 |true=>exact⟨rfl,h⟩
 |false=>exact absurd h.symm c
noncomputable def dZ{b:Type}(z:b) (st:Tr) (a:O) (f:Nat->AO->b):b:=jf z a λi=>aD z (st.get i) (f i)
theorem l8{b:Type}{z y₀:b}{f:List O->b}(h:cD z a f=y₀):z=y₀\/∃ x,a=.tup x/\f x=y₀:=by
 by_cases c:y₀=z
 ·exact .inl c.symm
 ·exact .inr (dO h c)
theorem vI{b:Type}{z y₀:b}{f:List O->b}(h:lp z a f=y₀):z=y₀\/∃ x,a=.hl x/\f x=y₀:=by
 by_cases c:y₀=z
 ·exact .inl c.symm
 ·exact .inr (sq h c)
theorem EH{b:Type}{z y₀:b}{f:Str->b}(h:afD z a f=y₀):z=y₀\/∃ x,a=.str x/\f x=y₀:=by
 by_cases c:y₀=z
 ·exact .inl c.symm
 ·exact .inr (gD h c)
theorem EI{b:Type}{z y₀:b}{f:Int->b}(h:dR z a f=y₀):z=y₀\/∃ x,a=.int x/\f x=y₀:=by
 by_cases c:y₀=z
 ·exact .inl c.symm
 ·exact .inr (jT h c)
theorem PY{b:Type}{z y₀:b}{f:List O->b}(h:gF z a f=y₀):z=y₀\/∃ x,a=.list x/\f x=y₀:=by
 by_cases c:y₀=z
 ·exact .inl c.symm
 ·exact .inr (pJ h c)
noncomputable def et{c:Type}(a:O) (x:Nat->O->c) (y:c):c:=O.casesOn (motive_1:=λb=>c) a y (λb=>y) (λb=>y) (λb=>y) (λb=>y) (λb=>y) x (λb=>y) (λb=>y) (λb b=>y) (λb b=>y) (λb b=>y) y (λb=>y)
noncomputable def sF(a:O):Prop:=∀ {b:Type}(x:Nat->O->b)(y:b),et a x y=y
theorem fD(a:O):(∃ c v,a=.may c v)\/sF a:=by induction a using O.casesOn with
 |may c v=>exact .inl ⟨c,v,rfl⟩
 |_=>exact .inr λb b=>rfl
inductive Vw where
 |sc(d:afj)|tup(l:List O)|lst(l:List O)|tok(f k:Nat)|bad
noncomputable def yn (o:AO):Vw:=AO.casesOn (motive:=λa=>Vw) o .lst (λa=>.bad) (λa a=>.bad) .bad (λa=>.bad) (λa=>.bad) .bad (λa a=>.bad)
noncomputable def vw (st:Tr) (a:O):Vw:=O.casesOn (motive_1:=λc=>Vw) a (.sc .none) (λb=>.sc (.bool b)) (λi=>.sc (.int i)) (λx=>.sc (.str x)) .tup .lst (λc c=>.bad) (λi=>aeT .bad yn (st.get i))
 (λc=>.bad) .tok (λc c=>.bad) (λc c=>.bad) .bad (λc=>.bad)
noncomputable def gK{a:Type}(o:Option a) (r:Option (List a)):Option (List a):=aeT none (λd=>aeT none (λb=>some (d::b)) r) o
noncomputable def dL (T:KT) (b:O->Option afj):List O->Option (List afj):=aeC (some []) λa d r=>et a (λc v=>aen r (gK (b v) r) (T.cond c)) (gK (b a) r)
noncomputable def gP (f:List afj->afj) (o:Option (List afj)):Option PyData:=aeT none (λa=>some (f a)) o
noncomputable def iD (T:KT) (D:O->Option afj) (v:Vw):Option PyData:=Vw.casesOn v some (λl=>gP .tuple (dL T D l)) (λl=>gP .list (dL T D l)) (λf k=>D (T.θ f k)) none
noncomputable def toD (T:KT) (st:Tr):Nat->O->Option PyData:=afX (λb=>none) λb c a=>iD T c (vw st a)
noncomputable def DR(T:KT)(st:Tr)(n:Nat)(a:O)(d:afj):Prop:=toD T st n a=some d
noncomputable def pf (T:KT) (st:Tr) (n:Nat) (l:List O) (a:List afj):Prop:=dL T (toD T st n) l=some a
noncomputable def jg (T:KT):Prop:=∀ f k st,∃ d,DR T st 20 (T.θ f k) d
structure LS where
 loc:List (Nat×O)
 aK:List (Nat×Nat)
 st:Tr
 n:Nat
 lo:Nat
 mark:List Nat
inductive Rs:Type where
 |ok(v:O)|exc(C:aep)|no
noncomputable abbrev Kv:=O->LS->Rs
noncomputable abbrev Ev:=LS->Kv->Rs
noncomputable abbrev Tc:=LS->(Bool->LS->Rs)->Rs
noncomputable abbrev eb:=LS->(List O->LS->Rs)->Rs
noncomputable abbrev Sc:=LS->(LS->Rs)->Kv->Rs
noncomputable abbrev Call:=O->List O->Ev
noncomputable def LS.push (σ:LS) (o:AO):LS:=LS.rec (motive:=λa=>LS) (λl c t n lo m=>⟨l,c,Tr.set o (nat_lit 10) t n,afb n,lo,m⟩) σ
noncomputable def jm (a b:Nat):Nat:=aen b a (aeQ a b)
theorem i9:jm a b<=a:=by
 unfold jm;induction q:aeQ a b using aee with
 |false=>exact Nat.le_of_not_le λh=>by rw[aho h]at q;exact gr q
 |true=>exact aeu _
theorem iz:jm a b<=b:=by
 unfold jm;induction q:aeQ a b using aee with
 |false=>exact aeu _
 |true=>exact aei q
noncomputable def LS.tJ (σ:LS) (i:Nat) (o:AO):LS:=LS.rec (motive:=λa=>LS) (λl c t n lo m=>⟨l,c,Tr.set o (nat_lit 10) t i,n,jm (agf i) lo,m⟩) σ
noncomputable def LS.put (σ:LS) (i:Nat) (o:AO):LS:=LS.rec (motive:=λa=>LS) (λl c t n lo m=>⟨l,c,Tr.set o (nat_lit 10) t i,n,jm i lo,m⟩) σ
noncomputable def bD:Nat:=nat_lit 1024
noncomputable def LS.room (σ:LS):Bool:=aeQ (afb σ.n) bD
structure aJ where
 params:List Str
 dh:List O
 body:List afu
 scope:aft
 code:Option (aep×Str)
structure Gl where
 name:Str->Option O
 boot:Str->Bool
 fn:aep->Option aJ
 ck:aep->Str->Option aep
 attr:aep->Str->Bool
 init:aep->Option aep
structure Wd where
 prog:ae0
 w:afh
 kt:KT
 G:Gl
 os:afn
noncomputable abbrev Wd.K(W:Wd):Frag:=W.kt.K
inductive OR (W:Wd) (α:List aep) (N:Led) (i:Nat):Obj->AO->Prop
 |list{vs n eE}:ah W.kt α N vs eE->OR W α N i (aex vs.toArray n) (.list eE)
 |dict{o kvs aes}:o.IsDictOf (ae2 W.prog W.w) kvs->aU W.kt α N kvs aes->OR W α N i o (.dict aes)
 |obj{j C d es n aes}:i=j+1->α[j]?=some d->(d,afP es n)∈N->bM W.w.params W.kt α N es aes->OR W α N i (ahp C d) (.obj C aes)
 |own{o}:OR W α N i o .own
 |cell{o v av}:o.data=.cell (some v)->VR W.kt α N v av->OR W α N i o (.cell (some av))
 |mo{o}:o.data=.cell none->OR W α N i o (.cell none)
 |src{a b t u n k}:0<=b->b<2147483648->OR W α N i (aex #[.int a t,.int b u] n) (.src k)
 |any{o}:OR W α N i o .any
 |tab{P:aep}{ps q}:α[i]?=some P->aiY ps.toList->(∀ pos cv,ahv pos ps.toList=some cv->i7 α N cv q)->OR W α N i (afe ps) (.tab P q)
noncomputable def OI (W:Wd) (α:List aep) (N:Led) (i:Nat) (b:Obj) (o:AO):Prop:=AO.casesOn (motive:=λm=>Prop) o (λl=>∃ f n,b=aex (ajl f) n/\ah W.kt α N f l) (λl=>∃ g,b.IsDictOf (ae2 W.prog W.w) g/\aU W.kt α N g l)
 (λC l=>∃ j d h n,b=ahp C d/\i=j+1/\α[j]?=some d/\(d,afP h n)∈N/\bM W.w.params W.kt α N h l) True (λv=>aeT (b.data=.cell none) (λa=>∃ u,b.data=.cell (some u)/\VR W.kt α N u a) v)
 (λm=>∃ a c t u n,b=aex #[.int a t,.int c u] n/\0<=c/\c<2147483648) True (λP q=>∃ e,b=afe e/\α[i]?=some P/\aiY e.toList/\∀ p k,ahv p e.toList=some k->i7 α N k q)
theorem OR.inv(h:OR W α N i b o):OI W α N i b o:=by
 induction h using OR.casesOn with
 |list h=>exact⟨_,_,rfl,h⟩
 |dict a c=>exact⟨_,a,c⟩
 |obj a c d e=>exact⟨_,_,_,_,rfl,a,c,d,e⟩
 |own=>exact trivial
 |cell a c=>exact⟨_,a,c⟩
 |mo h=>exact h
 |src a c=>exact⟨_,_,_,_,_,rfl,a,c⟩
 |any=>exact trivial
 |tab a c d=>exact(nT _ rfl a c d)
theorem OR.RP (h:OR W α N i b (.cell v)):∃ a,b.data=.cell a:=by
 have q:=h.inv;induction v using aer with
 |none=>exact⟨_,q⟩
 |some=>refine Y q ?_;clear q;intro u q c;exact⟨_,q⟩
section
variable{W:Wd}{α:List aep}{N:Led}{i:Nat}
end
structure Cx (W:Wd)where
 A₀:aeX
 base:afd
 outer:List Env
 h₀:afd
 L:aep
 bF:Env
 env:Env
 comp:Option (aep×(Str->Option aec))
 ax:Led
noncomputable abbrev Cx.scope(c:Cx W):Scope:=c.env.scope
variable{W:Wd}
noncomputable def ek (W:Wd)(sc:aft)(loc:List (Nat×O))(α:List aep)(N:Led)(m:Str->Option aec):Prop:=∀ n v,lk n loc=some v->∃ x k val,sc.names[n]?=some (x,k)/\m x=some val/\VR W.kt α N val v
noncomputable def NR (c:Cx W)(loc:List (Nat×O))(α:List aep)(N:Led)(m:Str->Option aec):Prop:=match c.comp with
 |none=>ek W c.scope loc α N m
 |some (C,b)=>m=b/\∃ o a,(C,o)∈c.ax/\ahe o a/\ek W c.scope loc α N a
theorem ek.mono (g:Ge α N c d) (h:ek W sc loc α N m):ek W sc loc c d m:=λx v e=>(cg (h x v e) λa b val f i j=>(dx a b val f i (j.mono g)))
theorem NR.mono (g:Ge α N a b)(h:NR c loc α N m):NR c loc a b m:=by
 unfold NR at h ⊢;split at h
 ·exact h.mono g
 ·refine kL h ?_;clear h;intro e o W d f i;exact (nM e o W d f (i.mono g))
structure SR (c:Cx W)(σ:LS)(s:aeg)(α:List aep)(N:Led):Prop where
 fr:∃ m,Fr c.h₀ c.L s.heap m/\NR c σ.loc α N m
 aK:gj c.scope α σ.aK c.env.cells
 news:agD c.h₀ c.L s.heap (N++c.ax)
 nodup:((N++c.ax).map (·.1)).Nodup
 inj:α.Nodup
 obj:∀ (i:Nat)(o:AO),i<σ.n->σ.st.get i=some o->∃ a b,α[i]?=some a/\(a,b)∈N/\OR W α N i b o
 all:∀ a∈α,a∈N.map (·.1)
 hi:∀ p∈N++c.ax,(p.1 ==afS)=false
 wf:Wf 10 σ.st
 bD:σ.n<=1024
 len:α.length=σ.n
 low:σ.lo<=σ.n
 bt:∀ i∈σ.mark,i<σ.n
 gens:s.gens=#[]
 os:s.os=W.os
 aZ:W.K.In s.heap
noncomputable def AO.sX:AO->Bool
 |.tab a b=>true
 |.src a=>true
 |_=>false
structure Sts(σ:LS)(α:List aep)(N:Led)(bu:LS)(bG:List aep)(N':Led):Prop where
 ge:Ge α N bG N'
 lo:bu.lo<=σ.lo
 same:∀ i,i<bu.lo->bu.st.get i=σ.st.get i
 n:σ.n<=bu.n
 mark:bu.mark=σ.mark
 obs:∀ i a o,i<bu.lo->α[i]?=some a->(a,o)∈N->(∀ b,AO.sX b=true->σ.st.get i≠some b)->(a,o)∈N'
 bf:∀ i,i∈σ.mark->bu.st.get i=σ.st.get i/\∀ a o,α[i]?=some a->(a,o)∈N->(a,o)∈N'
structure bh(σ:LS)(α:List aep)(N:Led)(bu:LS)(bG:List aep)(N':Led):Prop extends Sts σ α N bu bG N' where
 loc:bu.loc=σ.loc
theorem Sts.refl:Sts σ α N σ α N:=⟨.refl,aeu _,λW W=>rfl,aeu _,rfl,λW W W W W h W=>h,λW W=>⟨rfl,λW W W h=>h⟩⟩
theorem Sts.trans (g:Sts σ α N f j k) (c:Sts f j k l m p):Sts σ α N l m p:=
 ⟨g.ge.trans c.ge,aev c.lo g.lo,λi h=>(c.same i h).trans (g.same i (aej h c.lo)),aev g.n c.n,c.mark.trans g.mark,λi a o W d e nt=>c.obs i a o W (g.ge.at d) (g.obs i a o (aej W c.lo) d e nt) (λb q=>by rw[g.same i (aej W c.lo)];exact nt b q),λi W=>⟨(c.bf i (g.mark▸W)).1.trans (g.bf i W).1,λa o d e=>(c.bf i (g.mark▸W)).2 a o (g.ge.at d) ((g.bf i W).2 a o d e)⟩⟩
theorem bh.refl:bh σ α N σ α N:=⟨.refl,rfl⟩
theorem bh.trans(g:bh σ α N b c d)(a:bh b c d e f h):bh σ α N e f h:=⟨g.toSts.trans a.toSts,a.loc.trans g.loc⟩
theorem bh.Bj(g:bh σ α N a b c)(d:Sts a b c e f h):Sts σ α N e f h:=g.toSts.trans d
noncomputable def mq (fd:aJ)(vals:List O):Option (List (Str×O)):=
 if vals.length<=fd.params.length/\fd.params.length<=vals.length+fd.dh.length then some (fd.params.zip (vals++fd.dh.drop (fd.dh.length-(fd.params.length-vals.length))))
 else none
noncomputable def Fq (W:Wd)(F:ahx)(fd:aJ):Prop:=
 ∀ (c:List aec)(a:List O)(b:List (Str×O))d N,ah W.kt d N c a->aeS a=true->mq fd a=some b->∃ e,aU W.kt d N e b/\∀ s:aeg,W.K.In s.heap->BindsTo s F ⟨c,[]⟩ e
inductive XY (W:Wd) (a:aep) (fd:aJ) (qual:Str) (dC:aec):Prop
 |mk (name params dV kV doc pm ct oc an od kl) (ho:W.K.lookup a=some ⟨oc,od,.func (fnOf name qual params fd.body fd.scope dV kV doc pm an dC ct),kl⟩) (hb:Fq W (fnOf name qual params fd.body fd.scope dV kV doc pm an dC ct) fd)
structure tK (W:Wd)(a:aep)(fd:aJ)(qual:Str)(dC:aec):Prop where
 at_:XY W a fd qual dC
 code:codeIn W.K dC qual=true
 cd:∀ x,fd.code=some x->dC=.ref x.1/\(qual++".<locals>." :Str)=x.2
 loc:∀ x∈fd.params,fd.scope.names.lookup x=some .local\/fd.scope.names.lookup x=some .cell
 co:fd.scope.isCoroutine=false
 gen:fd.scope.isGenerator=false
 kind:fd.scope.kind=.function
 cell:((afF 0 fd.scope.names []).map (·.1)).Nodup
 cV:(fd.scope.names.map (·.1)).Nodup
structure Cr (W:Wd):Prop where
 tok:jg W.kt
 tb:∀ n,∃ b,W.kt.θ 7 n=.bool b
 Bk:∀ f k n,below n (W.kt.θ f k)=true
 M5:∀ k,∃ a r,W.kt.θ 0 k=.tup (a::.int 0::r)/\a.sure=true
 reg:∀ k,∃ l:List Str,W.kt.θ 2 k=.hl (l.map .str)
 sk:∀ k,∃ x,W.kt.θ 5 k=.str x
 name:∀ x v,W.G.name x=some v->∀ α N,∃ val,nsIn W.K ae1 x=some (some val)/\VR W.kt α N val v
 boot:∀ x,W.G.boot x=true->nsIn W.K ae1 x=some none/\x≠ "__name__"
 fn:∀ a fd,W.G.fn a=some fd->∃ qual dC,tK W a fd qual dC
 keep:∀ a,(W.G.fn a).isSome=true\/(W.G.init a).isSome=true->keepIn W.K (.ref a)=true
 ck:∀ C name f,W.G.ck C name=some f->ajm W.K C name=true/\agj W.K (.ref C) name=some (some (.ref f))/\isFn W.K (.ref f)=true/\(W.G.fn f).isSome=true
 attr:∀ C name,W.G.attr C name=true->ajm W.K C name=true/\hasDictIn W.K C=true/\(∃ attr,agj W.K (.ref C) name=some attr/\noGet W.K attr=true)/\ agj W.K (.ref C) "__setattr__" =some (some (.builtin "object.__setattr__"))/\plainOver W.K C=true/\takerIn W.K C name=some none
 init:∀ C f,W.G.init C=some f->makesIn W.K C=true/\agj W.K (.ref C) "__init__" =some (some (.ref f))/\isFn W.K (.ref f)=true
structure lq(W:Wd)(p:ae0)(loose:List Str)(mg mb:Str->Option aec)(h:afd):Prop extends TopRead p loose mg mb h where
 seer:h.NoSeer
 tree:W.prog.given.tree=none
theorem lq.keeps{a c:Str->Option aec}(T:lq W p d a c h)(hk:∀ b o,h.get? b=some o->h'.get? b=some o):lq W p d a c h':=⟨T.toTopRead.keeps hk,T.seer.keeps hk,T.tree⟩
structure ak (c:Cx W):Prop where
 g:Cr W
 aZ:W.K.In c.h₀
 lim:c.h₀.NoLimit
 below:Below c.A₀ c.base c.outer c.h₀
 kind:c.scope.kind=.function
 kY:c.bF.scope.kind=.function
 frame:c.bF.frame=some c.L
 iE:c.env.globals=ae1
 qA:c.env.builtins=agG
 locs:match c.comp with
  |none=>c.env.locals=c.L
  |some (C,Ct)=>c.env.locals=C
 top:∃ p loose mg mb,lq W p loose mg mb c.h₀
 cV:(c.scope.names.map (·.1)).Nodup
 kZ:W.K.In c.base
 lr:∃ p loose mg mb,lq W p loose mg mb c.base
 mT:c.base.NoLimit
 uw:c.comp=none->c.env=c.bF
 cin:∀ C mf,c.comp=some (C,mf)->∃ o,(C,o)∈c.ax
 nk:∀ p∈W.kt.src,c.base.IsList p.1 p.2.toArray
structure aP (c:Cx W)(d:Nat)(A:aeX):Prop where
 frames:A.frames=some (c.bF::c.outer)
 depth:A.depth+16*d<=890
 units:A.units+80*d<=9000
 handled:A.handled=none
noncomputable def pg (c:Cx W):List Addr:=(c.bF::c.outer).filterMap (·.frame)
noncomputable def XZ(B:afd)(l:List Env)(L:aep)(a:aep)(cls:aec)(h:afd):Prop:=
 B.StaysIn h/\B.get? a=none/\h.FunFrames B l/\ ((∃ W b c,h.get? a=some W/\W.cls=cls/\W.data=.fields b/\b[0]?=some c/\b[1]?=some .none)\/∃ c d,h.TracedAtW B a cls c d/\(d=.none\/d=ae6 L))
noncomputable def AI (c:Cx W)(α:List aep)(N:Led):Prop:=(N.map (·.1)).Nodup/\(∀ p∈N,(p.1 ==afS)=false/\p.1∉c.ax.map (·.1))/\∀ a∈α,a∈N.map (·.1)
inductive XR (c:Cx W) (C:aep) (e:aec) (σ:LS) (s:aeg) (α:List aep) (N:Led):Prop
 |mk (gl:s.gens=#[]/\AI c α N) (os:s.os=W.os) (a:aep) (B G:afd) (m:Str->Option aec) (ea:e=.ref a) (h1:c.base.StaysIn B) (h2:Fr c.h₀ c.L G m) (h3:NR c σ.loc α N m) (h4:∀ b o,G.get? b=some o->b∉pg c->B.get? b=some o) (h5:∀ q∈N++c.ax,B.get? q.1=some q.2/\c.h₀.get? q.1=none/\q.1≠c.L) (h6:G.UpToSlots s.heap) (fl:XZ B (c.bF::c.outer) c.L a (.ref C) s.heap)
theorem XR.same(x:XR c C e σ s α N)(q:σ.loc=b.loc):XR c C e b s α N:=by
 obtain⟨W,os,a,B,G,m,d,f,g,h,i,j,k,l⟩:=x;exact⟨W,os,a,B,G,m,d,f,g,q▸h,i,j,k,l⟩
structure Kp(σ:LS)(α:List aep)(N:Led)(bu:LS)(bG:List aep)(N':Led):Prop where
 ge:Ge α N bG N'
 mark:bu.mark=σ.mark
 bf:∀ i,i∈σ.mark->∀ a o,α[i]?=some a->(a,o)∈N->(a,o)∈N'
theorem Kp.trans (g:Kp σ α N d e f) (b:Kp d e f h j k):Kp σ α N h j k:=
 ⟨g.ge.trans b.ge,b.mark.trans g.mark,λi W a o c l=>b.bf i (g.mark▸W) a o (g.ge.at c) (g.bf i W a o c l)⟩
theorem Sts.kp(g:Sts σ α N a b c):Kp σ α N a b c:=⟨g.ge,g.mark,λi W=>(g.bf i W).2⟩
theorem bh.kp(g:bh σ α N a b c):Kp σ α N a b c:=g.toSts.kp
noncomputable def bS(c:Cx W)(y:Rs)(σ:LS)(α:List aep)(N:Led)(E:aec->aeg->Prop):Prop:=
 ∀ C e a b d f,y=.exc C->Kp σ α N a d f->XR c C e a b d f->E e b
theorem bS.step (h:bS c y σ α N E) (g:Kp σ α N a b d):bS c y a b d E:=
 λC e W f i j k m x=>h C e W f i j k (g.trans m) x
noncomputable def jn(c:Cx W)(y:Rs)(σ:LS)(α:List aep)(N:Led)(E:aec->aeg->Prop):Prop:=
 ∀ C e a b d f,y=.exc C->Kp σ α N a d f->a.loc=σ.loc->XR c C e a b d f->E e b
theorem bS.l(h:bS c y σ α N E):jn c y σ α N E:=λC e W a b d f g i x=>h C e W a b d f g x
theorem jn.step (h:jn c y σ α N E) (g:Kp σ α N a b d) (f:a.loc=σ.loc):jn c y a b d E:=
 λC e W i j k m n l x=>h C e W i j k m (g.trans n) (l.trans f) x
noncomputable abbrev WP (W:Wd) (A:aeX){a:Type}(m:Sem a) (Q:a->aeg->Prop) (E:aec->aeg->Prop) (s:aeg):Prop:=aeF (aeI W.prog W.w) A m Q E s
noncomputable def fZ(c:Cx W)(y:Rs)(σ:LS)(α:List aep)(N:Led)(k:Kv)(Q:aec->aeg->Prop):Prop:=
 ∀ a b v f d e,k a b=y->SR c b f d e->bh σ α N b d e->VR W.kt d e v a->Q v f
theorem fZ.step (h:fZ c y σ α N k Q) (g:bh σ α N b d f):fZ c y b d f k Q:=
 λa W v i j l e R m n=>h a W v i j l e R (g.trans m) n
noncomputable def ry(c:Cx W)(y:Rs)(σ:LS)(α:List aep)(N:Led)(k:Bool->LS->Rs)(Q:Bool->aeg->Prop):Prop:=
 ∀ b a d e f,k b a=y->SR c a d e f->bh σ α N a e f->Q b d
theorem ry.step (h:ry c y σ α N k Q)(g:bh σ α N b d f):ry c y b d f k Q:=
 λa W i j l e R m=>h a W i j l e R (g.trans m)
noncomputable def abj(c:Cx W)(y:Rs)(σ:LS)(α:List aep)(N:Led)(k:List O->LS->Rs)(Q:List aec->aeg->Prop):Prop:=
 ∀ l a e f b d,k l a=y->SR c a f b d->bh σ α N a b d->ah W.kt b d e l->aeS l=true->Q e f
noncomputable def gs(c:Cx W)(y:Rs)(σ:LS)(α:List aep)(N:Led)(kn:LS->Rs)(Q:Flow->aeg->Prop):Prop:=
 ∀ a b d e,kn a=y->SR c a b d e->Sts σ α N a d e->Q .next b
theorem gs.step (h:gs c y σ α N k Q)(g:Sts σ α N a b d):gs c y a b d k Q:=
 λW f i j e R l=>h W f i j e R (g.trans l)
noncomputable def gu (c:Cx W) (y:Rs) (σ:LS) (α:List aep) (N:Led) (kr:Kv) (Q:Flow->aeg->Prop):Prop:=
 ∀ a b v f d e,kr a b=y->SR c b f d e->Sts σ α N b d e->VR W.kt d e v a->Q (.ret v) f
theorem gu.step (h:gu c y σ α N k Q) (g:Sts σ α N b d f):gu c y b d f k Q:=
 λa W v i j l e R m n=>h a W v i j l e R (g.trans m) n
noncomputable def aE (c:Cx W) (A:aeX) (e:aeD) (code:Ev):Prop:=∀ a k y,code a k=y->y≠.no->∀ s b N E,SR c a s b N->bS c y a b N E->∀ Q,fZ c y a b N k Q->WP W A (eval e c.env) Q E s
noncomputable def dz (c:Cx W) (A:aeX) (e:aeD) (code:Tc):Prop:=∀ a k y,code a k=y->y≠.no->∀ s b N E,SR c a s b N->bS c y a b N E->∀ Q,ry c y a b N k Q->WP W A (isTrue e c.env (eval e c.env)) Q E s
noncomputable def gL (c:Cx W) (A:aeX) (d:List aeD) (code:eb):Prop:=∀ a k y,code a k=y->y≠.no->∀ s b N E,SR c a s b N->bS c y a b N E->∀ (e:Pos) Q,abj c y a b N k Q->WP W A (spliced (ahT e (agE d c.env))) Q E s
noncomputable def bQ (c:Cx W) (A:aeX) (st:afu) (code:Sc):Prop:=∀ a kn d y,code a kn d=y->y≠.no->∀ s b N E,SR c a s b N->bS c y a b N E->∀ Q,gs c y a b N kn Q->gu c y a b N d Q->WP W A (exec st c.env) Q E s
noncomputable def cy (c:Cx W) (A:aeX) (e:List afu) (code:Sc):Prop:=∀ a kn d y,code a kn d=y->y≠.no->∀ s b N E,SR c a s b N->bS c y a b N E->∀ Q,gs c y a b N kn Q->gu c y a b N d Q->WP W A (ahf e c.env) Q E s
noncomputable def ja (c:Cx W) (A:aeX) (call:Call):Prop:=∀ f d b k y,call f d b k=y->y≠.no->∀ s a N E,SR c b s a N->jn c y b a N E->∀ e g,VR W.kt a N e f->ah W.kt a N g d->aeS d=true->∀ Q,fZ c y b a N k Q->WP W A (afc e g) Q E s
noncomputable def dv(W:Wd)(d:Nat)(call:Call):Prop:=∀ (c:Cx W)(A:aeX),ak c->aP c d A->ja c A call
end
section
variable{W:Wd}{c:Cx W}{A:aeX}{d:Nat}{σ bu:LS}{s:aeg}{α:List aep}{N:Led}
theorem SR.toks(R:SR c σ s α N):SR c σ {s with toks:=t} α N:=⟨R.fr,R.aK,R.news,R.nodup,R.inj,R.obj,R.all,R.hi,R.wf,R.bD,R.len,R.low,R.bt,R.gens,R.os,R.aZ⟩
theorem OR.wd (g:Ge α N b a) (f:(∃ C k,ao=.obj C k)->∀ j d o,α[j]?=some d->(d,o)∈N->i=j+1->(d,o)∈a) (h:OR W α N i o ao):OR W b a i o ao:=by
 induction h using OR.casesOn with
 |list r=>exact .list (r.mono g)
 |dict e r=>exact .dict e (r.mono g)
 |obj e h m r=>exact .obj e (g.at h) (f (Lv _ _ rfl) _ _ _ h m e) (r.mono g)
 |own=>exact .own
 |cell e h=>exact .cell e (h.mono g)
 |mo e=>exact .mo e
 |src c s=>exact .src c s
 |any=>exact .any
 |tab A c s=>exact .tab (g.at A) c λl n e=>(s l n e).mono g
theorem OR.mono(g:Ge α N b a)(e:∀ j d o,α[j]?=some d->(d,o)∈N->i=j+1->(d,o)∈a)(h:OR W α N i o ao):OR W b a i o ao:=h.wd g λc=>e
theorem zE{l:List (Str×afm)}(b:(l.map (·.1)).Nodup):∀ {i j:Nat}{x k a},l[i]?=some (x,k)->l[j]?=some (x,a)->i=j:=by
 induction l with
 |nil=>exact λh=>nomatch h
 |cons p l A=> intro i j x k a c d;refine ae (aeU.mp b) ?_;clear b;intro s N;induction i using aez with
  |zero=>induction j using aez with
   |zero=>rfl
   |succ j=>have W:=aea c;subst p;exact absurd (aeG.mpr (ay _ (aeM (show l[j]?=some (x,a) from d)) rfl)) s
  |succ i=>induction j using aez with
   |zero=>have W:=aea d;subst p;exact absurd (aeG.mpr (ay _ (aeM (show l[i]?=some (x,k) from c)) rfl)) s
   |succ j=>exact congrArg (·+1) (A N c d)
theorem SR.get (R:SR c σ s α N)(h:(a,o)∈N):s.heap.get? a=some o:=R.news.get (aef _ h)
theorem SR.Ai (R:SR c σ s α N):s.heap.objs.size∉(N++c.ax).map (·.1):=λd=>by
 refine Y (aeG.mp d) ?_;clear d;intro p A e;have:=aeJ (R.news _ A).1;rw[e]at this;exact afx _ this
theorem SR.fresh (R:SR c σ s α N):s.heap.objs.size∉N.map (·.1):=λh=>R.Ai (by rw[aeO];exact aef _ h)
theorem SR.M6 (R:SR c σ s α N):(N.map (·.1)).Nodup:=by
 have h:=R.nodup;rw[aeO]at h;exact (aeY.mp h).1
theorem SR.Bl (R:SR c σ s α N)(h:a∈N.map (·.1)):a∉c.ax.map (·.1):=by
 have q:=R.nodup;rw[aeO]at q;exact λd=>(aeY.mp q).2.2 a h a d rfl
theorem SR.mem (R:SR c σ s α N) (h:a∈α):∃ b,(a,b)∈N:=by
 refine Y (aeG.mp (R.all a h)) ?_;clear R h;intro p d e;exact⟨p.2,by rw[←e];exact d⟩
theorem SR.away (R:SR c σ s α N):s.heap.objs.size∉α:=λd=>R.fresh (R.all _ d)
theorem SR.uniq(R:SR c σ s α N)(h:(a,o)∈N)(h':(a,o')∈N):o=o':=by
 have A:=R.get h;have d:=R.get h';rw[A]at d;exact aea d
theorem SR.du (R:SR c σ s α N)(a:ak c):∀ p∈((s.heap.objs.size,o)::N)++c.ax,(p.1 ==afS)=false:=λp d=>by
 rcases aeq.mp d with rfl|d
 ·refine Y R.fr λm F A=>?_
  exact F.notModules (aiV a.lim)
 ·exact R.hi p d
theorem SR.hidden (R:SR c σ s α N) (f:ak c) {m:Str->Option aec} (k:NR c σ.loc α N m) (j:Fr c.h₀ c.L h' m) (l:agD c.h₀ c.L h' ((s.heap.objs.size,o)::(N++c.ax))): SR c σ {s with heap:=h',toks:=t} α ((s.heap.objs.size,o)::N)/\bh σ α N σ α ((s.heap.objs.size,o)::N):=by
 have g:Ge α N α ((s.heap.objs.size,o)::N):=⟨afA _,λd h d=>.tail _ h,λd h=>.inl h,λd A h=>⟨A,.tail _ h⟩⟩
 refine ⟨⟨(ay m j (k.mono g)),R.aK.mono g,l,?_,R.inj,λi o hi e=>?_,λa h=>ahy _ (R.all a h),R.du f,R.wf,R.bD,R.len,R.low,R.bt,R.gens,R.os,f.aZ.keeps j.keep⟩,⟨⟨g,aeu _,λd d=>rfl,aeu _,rfl,λd d d d d h d=>.tail _ h,λd d=>⟨rfl,λd d d h=>.tail _ h⟩⟩,rfl⟩⟩
 ·rw[ag4,aeL];exact aeU.mpr ⟨R.Ai,R.nodup⟩
 ·refine aH (R.obj i o hi e) ?_;clear R hi e;intro a b W n p;exact (bB a b W (.tail _ n) (p.mono g λd d d d h d=>.tail _ h))
theorem LS.vz(h:σ.room=true):σ.n<1024:=aei h
theorem pT (R:SR c σ s α N) (a:σ.room=true) (b:i<σ.n+1):(σ.push o).st.get i=if i=σ.n then some o else σ.st.get i:=
 get_set R.wf (LS.vz a) (aej b (LS.vz a))
theorem kD (h:α.length=n):(α++[a])[n]?=some a:=by
 subst h;rw[agU (aeu _),Nat.sub_self];rfl
theorem SR.add (R:SR c σ s α N) (j:ak c) (f:σ.room=true) {m:Str->Option aec} (l:NR c σ.loc α N m) (k:Fr c.h₀ c.L h' m) (n:agD c.h₀ c.L h' ((s.heap.objs.size,o)::(N++c.ax)))
  (p:bh σ α N (σ.push ao) (α++[s.heap.objs.size]) ((s.heap.objs.size,o)::N)->OR W (α++[s.heap.objs.size]) ((s.heap.objs.size,o)::N) σ.n o ao):
  SR c (σ.push ao) {s with heap:=h',toks:=t} (α++[s.heap.objs.size]) ((s.heap.objs.size,o)::N)/\bh σ α N (σ.push ao) (α++[s.heap.objs.size]) ((s.heap.objs.size,o)::N):=by
 have g:Ge α N (α++[s.heap.objs.size]) ((s.heap.objs.size,o)::N):=⟨ahU _ _,λd h d=>.tail _ h,λa h=>by
  rcases aeH.mp h with h|h
  ·exact .inl h
  ·rw[ael.mp h];exact .inr R.fresh,λd r h=>⟨r,.tail _ h⟩⟩
 have st:bh σ α N (σ.push ao) (α++[s.heap.objs.size]) ((s.heap.objs.size,o)::N):=⟨⟨g,aeu _,λi hi=>by
  have du:i<σ.n:=aej hi R.low
  rw[pT R f (ae7 du),if_neg (aeE du)],afY _,rfl,λd d d d d h d=>.tail _ h,λi hi=>⟨by
  have du:i<σ.n:=R.bt i hi
  rw[pT R f (ae7 du),if_neg (aeE du)],λd d d h=>.tail _ h⟩⟩,rfl⟩
 refine ⟨⟨(ay m k (l.mono g)),R.aK.mono g,n,?_,?_,λi A hi e=>?_,?_,R.du j,R.wf.set,LS.vz f,?_,agX R.low,(λi h=>ae7 (R.bt i h)),R.gens,R.os,j.aZ.keeps k.keep⟩,st⟩
 ·rw[ag4,aeL];exact aeU.mpr ⟨R.Ai,R.nodup⟩
 ·refine aeY.mpr (bH R.inj (ae5 _ _) (λa u b v=>?_))
  rw[ael.mp v]
  rintro rfl
  exact R.away u
 ·rw[pT R f hi]at e
  by_cases q:i=σ.n
  ·rw[if_pos q]at e
   have z:=aea e;clear e;subst A
   subst q
   exact (bB _ o (kD R.len) (.head _) (p st))
  ·rw[if_neg q]at e
   refine aH (R.obj i A (aiZ (aib hi) q) e) ?_;clear hi q e;intro a b w x y
   exact (bB a b (g.at w) (.tail _ x) (y.mono g λd d d d h d=>.tail _ h))
 ·intro a h
  rw[aeL]
  rcases aeH.mp h with h|h
  ·exact .tail _ (R.all a h)
  ·rw[ael.mp h];exact .head _
 ·show (α++[_]).length=σ.n+1
  rw[agL,R.len];rfl
theorem VY:lk k ((n,v)::l)=if k=n then some v else lk k l:=eC
theorem SR.VZ (R:SR c σ s α N) (g:ak c) (p:c.comp=none) (i:c.scope.names[n]?=some (x,k)) (q:VR W.kt α N v a) {t:Nat} {m:Str->Option aec}
  (f:NR c σ.loc α N m) (l:Fr c.h₀ c.L h' (λy=>if y=x then some v else m y)) (r:agD c.h₀ c.L h' (N++c.ax)):
  SR c ⟨(n,a)::σ.loc,σ.aK,σ.st,σ.n,σ.lo,σ.mark⟩ {s with heap:=h',toks:=t} α N/\Sts σ α N ⟨(n,a)::σ.loc,σ.aK,σ.st,σ.n,σ.lo,σ.mark⟩ α N:=by
 refine ⟨⟨(ay _ l ?_),R.aK,r,R.nodup,R.inj,R.obj,R.all,R.hi,R.wf,R.bD,R.len,R.low,R.bt,R.gens,R.os,g.aZ.keeps l.keep⟩,⟨.refl,aeu _,λd d=>rfl,aeu _,rfl,λd d d d d h d=>h,λd d=>⟨rfl,λd d d h=>h⟩⟩⟩
 unfold NR at f ⊢;rw[p]at f ⊢;intro j b A;dsimp only at A;rw[VY]at A;by_cases e:j=n
 ·subst e;rw[if_pos rfl]at A;have D:=aea A;clear A;subst b;exact (dx x k v i (if_pos rfl) q)
 ·rw[if_neg e]at A;refine cg (f j b A) ?_;clear f A;intro u w val o B C;refine (dx u w val o ((if_neg λz=>e ?_).trans B) C)
  subst z;exact zE g.cV o i
theorem Gk (o':Obj):(N.map (·.1)).Nodup->(a,o)∈N->∃ b,Upd a o o' N b/\b.map (·.1)=N.map (·.1)/\(a,o')∈b/\∀ p∈N,p.1≠a->p∈b:=by
 induction N with
 |nil=>exact λj h=>nomatch h
 |cons p N s=>
  intro A h;refine ae (aeU.mp A) ?_;clear A;intro W f;rcases aeq.mp h with rfl|h
  ·exact (nT ((a,o')::N) (.head λq c g=>W (aeG.mpr (ay q c g))) rfl (.head _) (λq c d=>(aeq.mp c).elim (λe=>absurd (congrArg Prod.fst e) d) (.tail _)))
  ·refine j0 (s f h) ?_;clear s f;intro b u i m k;exact (nT (p::b) (.tail (λe=>W (aeG.mpr (ay _ h e.symm))) u) (congrArg (p.1::·) i) (.tail _ m) (λq c d=>(aeq.mp c).elim (λe=>e▸.head _) λc=>.tail _ (k q c d)))
theorem _root_.PySem.W.Upd.mem (u:Upd a o o' N b):∀ p∈b,p=(a,o')\/(p∈N/\p.1≠a):=by
 induction u with
 |head d=>exact λp c=>(aeq.mp c).elim .inl λc=>.inr ⟨.tail _ c,d p c⟩
 |tail e A s=>exact λp c=>(aeq.mp c).elim (λq=>.inr ⟨q▸.head _,q▸e⟩) λc=>(s p c).elim .inl λq=>.inr ⟨.tail _ q.1,q.2⟩
theorem _root_.PySem.W.Upd.oH (u:Upd a o o' N b):∀ p∈N,p.1≠a->p∈b:=by
 induction u with
 |head A=>exact λp c d=>(aeq.mp c).elim (λe=>absurd (congrArg Prod.fst e) d) (.tail _)
 |tail e f s=>exact λp c d=>(aeq.mp c).elim (λq=>q▸.head _) λc=>.tail _ (s p c d)
theorem _root_.PySem.W.Upd.new(u:Upd a o o' N b):(a,o')∈b:=by
 induction u with
 |head=>exact .head _
 |tail d s c=>exact .tail _ c
theorem _root_.PySem.W.Upd.app (u:Upd a o o' N b) (h:∀ p∈M,p.1≠a):Upd a o o' (N++M) (b++M):=by
 induction u with
 |head c=>exact .head λp d=>(aeH.mp d).elim (c p) (h p)
 |tail e A s=>exact .tail e s
theorem hH (R:SR c σ s α N){i j:Nat}{a:aep}(h:α[i]?=some a) (h':α[j]?=some a):i=j:=by
 refine aL (aeV.mp h) ?_;clear h;intro d A;refine aL (aeV.mp h') ?_;clear h';intro W b;have pw:=List.pairwise_iff_getElem.mp R.inj;rcases Nat.lt_trichotomy i j with q|q|q
 ·exact absurd (A.trans b.symm) (pw _ _ d W q)
 ·exact q
 ·exact absurd (b.trans A.symm) (pw _ _ W d q)
theorem SR.lt(R:SR c σ s α N)(h:α[i]?=some a):i<σ.n:=R.len▸(aeV.mp h).1
theorem kN (R:SR c σ s α N) (a:i<σ.n) (b:j<σ.n):(σ.put i o).st.get j=if j=i then some o else σ.st.get j:=
 get_set R.wf (aej a R.bD) (aej b R.bD)
theorem SR.mod (R:SR c σ s α N) (X:ak c) {i:Nat} {o o':Obj} (n:α[i]?=some a) (D:(a,o)∈N) (M:i∉σ.mark) (P:∀ w,o=afe w->∃ E,o'=afe E) (Z:∀ x,σ.st.get (i+1)=some x->i+1<σ.n->(∃ C es,x=.obj C es)->False):
  ∃ k,Upd a o o' (N++c.ax) (k++c.ax)/\bh σ α N (σ.put i ao') α k/\∀ {h':afd} {t:Nat} {m:Str->Option aec},NR c σ.loc α N m->Fr c.h₀ c.L h' m->agD c.h₀ c.L h' (k++c.ax)->OR W α k i o' ao'->
   SR c (σ.put i ao') {s with heap:=h',toks:=t} α k:=by
 refine j0 (Gk o' R.M6 D) λk qa F Q r=>?_
 have hi:=R.lt n;have g:Ge α N α k:=⟨afA _,λp l hn=>r p l λe=>hn (e▸aeM n),λu_ h=>.inl h,λqb w h=>by
  by_cases q:qb=a
  ·subst q;refine aL (P w (aea ((R.news.get (aef _ D)).symm.trans (R.news.get (aef _ h))))) ?_;clear P;intro E e;exact⟨E,e▸Q⟩
  ·exact⟨w,r _ h q⟩⟩
 have st:bh σ α N (σ.put i ao') α k:=⟨⟨g,iz,λj A=>by
  have y:j<i:=aej A i9;rw[kN R hi (agk y hi),if_neg (aeE y)],aeu _,rfl,λj b ob A u v u_=>r _ v λe=>by
   have y:j<i:=aej A i9;exact aeE y (hH R u (show α[i]?=some b by rw[show b=a from e];exact n)),λj A=>⟨by
  have G:j≠i:=λe=>M (e▸A)
  rw[kN R hi (R.bt j A),if_neg G],λb ob u v=>r _ v λe=>by
   have G:j≠i:=λe=>M (e▸A)
   exact G (hH R u (show α[i]?=some b by rw[show b=a from e];exact n))⟩⟩,rfl⟩
 refine (dI k (qa.app λp l e=>R.Bl (a:=a) (aew (f:=λp:aep×Obj=>p.1) D) (e▸aew l)) st (λhm S km ho=>⟨(ay _ S (hm.mono g)),R.aK.mono g,km,by rw[aeO,F,←aeO];exact R.nodup,R.inj,λj H A e=>?_,λa h=>F▸R.all a h,λp l=>?_,R.wf.set,R.bD,R.len,aev iz R.low,R.bt,R.gens,R.os,X.aZ.keeps S.keep⟩))
 rotate_left
 ·rcases aeH.mp l with l|l
  ·have I:p.1∈k.map (·.1):=aew l;rw[F]at I;refine Y (aeG.mp I) ?_;clear I;intro q hq e;have z:=R.hi q (aef _ hq);rw[e]at z;exact z
  ·exact R.hi p (aek _ l)
 rw[kN R hi A]at e;by_cases q:j=i
 ·rw[if_pos q]at e;have bj:=aea e;clear e;subst H;subst q;exact (bB a o' n Q ho)
 ·rw[if_neg q]at e;refine aH (R.obj j H A e) λB b u v h3=>?_
  have T:∀ {L B},α[L]?=some B->L≠i->B≠a:=λh z z'=>z (hH R h (z'▸n))
  exact (bB B b u (r _ v (T u q)) (h3.wd g λhx L d o h5 h6 V=>r _ h6 (T h5 λz=>Z _ (show σ.st.get (i+1)=some H from (z▸V:j=i+1)▸e) ((z▸V:j=i+1)▸A) hx)))
theorem SR.at (R:SR c σ s α N) (h:σ.st.get i=some o) (e:VR W.kt α N v (.ref i)):∃ a b,v=.ref a/\α[i]?=some a/\(a,b)∈N/\OR W α N i b o:=by
 refine Y e.inv ?_;clear e;intro a d hi;subst d;refine aH (R.obj _ _ (R.lt hi) h) ?_;clear R h;intro A b f g j;have d:=aea (hi.symm.trans f);subst A;exact (pY _ b rfl hi g j)
theorem SR.of (R:SR c σ s α N) (h:σ.st.get i=some o) (hi:α[i]?=some a):∃ b,(a,b)∈N/\OR W α N i b o:=by
 refine aH (R.obj _ _ (R.lt hi) h) ?_;clear R h;intro A b d e f;rw[hi]at d;have g:=aea d;clear d;subst A;exact (ay b e f)
theorem bM.getL{P K α N x}{b aes}(f:bM P K α N b aes):match aes.lookup x with
  |some a=>∃ v,ags x b=some (some v)/\VR K α N v a
  |none=>ags x b=some none:=by
 induction f with
 |nil=>rfl
 |@cons y t v W b aes h r c=>
  rw[afq];by_cases e:x=y
  ·subst e;rw[beq_self_eq_true];refine (ay v ?_ h);unfold ags;rw[List.find?_cons_of_pos (by simp[Value.isStr])]
  ·rw[beq_eq_false_iff_ne.mpr e];have A:(Value.str y t).isStr x=false:=by
    show (y ==x)=false;exact beq_eq_false_iff_ne.mpr (Ne.symm e)
   have s:∀ d,ags x (⟨d,.str y t,v⟩::b)=ags x b:=by
    intro d;unfold ags;rw[List.find?_cons_of_neg (by rw[A];exact aeP),afr]
    have:(⟨d,.str y t,v⟩:DictEntry).refKey=false:=rfl;rw[this,ajL]
   dsimp only;induction q:aes.lookup x using aer with
   |some a=>rw[q]at c;rw[s];exact c
   |none=>rw[q]at c;rw[s];exact c
noncomputable def yo (l:List Nat):List Nat->Bool:=aeC (motive:=λc=>List Nat->Bool) (λr=>aeC (motive:=λc=>Bool) true (λc c c=>false) r) (λa c d r=>aeC (motive:=λc=>Bool) false (λb s c=>aen false (d s) (aem a b)) r) l
noncomputable def seq(x y:Str):Bool:=yo x.cps.toList y.cps.toList
theorem Fs:∀ {l r:List Nat},yo l r=true↔l=r
 |[],[]=>⟨λe=>rfl,λe=>rfl⟩
 |[],f::g=>⟨λh=>absurd h aeP,λh=>(nomatch h)⟩
 |f::g,[]=>⟨λh=>absurd h aeP,λh=>(nomatch h)⟩
 |a::l,b::r=>by
  show aen (motive:=λe=>Bool) false (yo l r) (aem a b)=true↔_
  induction q:aem a b using aee with
  |false=>
   refine⟨λh=>absurd h aeP,λh=>?_⟩
   rw[(List.cons.inj h).1,afz]at q;exact gr q
  |true=>
   rw[aed q];show yo l r=true↔_;rw[Fs,List.cons.injEq];simp
theorem gG:seq x y=true↔x=y:=by
 unfold seq;rw[Fs];obtain⟨⟨x⟩⟩:=x;obtain⟨⟨y⟩⟩:=y;simp
theorem seq_eq:seq x y=(x ==y):=by
 induction q:seq x y using aee with
 |true=>rw[gG.mp q];simp
 |false=>exact(beq_eq_false_iff_ne.mpr λh=>by rw[gG.mpr h]at q;exact gr q).symm
noncomputable def bw{α:Type}(x:Str) (l:List (Str×α)):Option α:=aeC none (λe d c=>aen c (some e.2) (seq x e.1)) l
theorem sG{α:Type}:∀ {l:List (Str×α)},bw x l=l.lookup x
 |[]=>rfl
 |e::l=>by
  rw[afq];show aen (motive:=λa=>Option α) (bw x l) (some e.2) (seq x e.1)=_
  rw[seq_eq,sG]
  cases x ==e.1<;>rfl
theorem V0{T α N v c a}(h:VR T α N v (.may c a)):False:=h.inv
theorem zf{b:Type}{o:Option b}{r:Option (List b)}{l}(h:gK o r=some l):∃ d a,o=some d/\r=some a/\l=d::a:=by
 induction o using aer with
 |none=>exact aT h
 |some d=> induction r using aer with
  |none=>exact aT h
  |some a=>have c:=aea h;clear h;subst l;exact (bB d a rfl rfl rfl)
theorem sa (h:gP f o=some x):∃ b,o=some b/\f b=x:=by
 induction o using aer with
 |none=>exact aT h
 |some b=>exact (ay b rfl (aea h))
theorem Ft{D:O->Option afj}(h:dL T D (a::l)=some b):(∃ c v,a=.may c v/\((T.cond c=true/\gK (D v) (dL T D l)=some b)\/(T.cond c=false/\dL T D l=some b)))\/(sF a/\gK (D a) (dL T D l)=some b):=by
 rcases fD a with ⟨c,v,rfl⟩|s
 ·have d:(aen (dL T D l) (gK (D v) (dL T D l)) (T.cond c):Option (List afj))=some b:=h;refine .inl (gJ c v rfl ?_);induction e:T.cond c using aee with
  |true=>rw[e]at d;exact .inl ⟨rfl,d⟩
  |false=>rw[e]at d;exact .inr ⟨rfl,d⟩
 ·exact .inr ⟨s,(s _ _).symm.trans h⟩
theorem nW{T:KT}{D:O->Option afj}{c v}{l:List O}:dL T D (.may c v::l)=aen (dL T D l) (gK (D v) (dL T D l)) (T.cond c):=rfl
theorem nX{D:O->Option afj}(b:sF a):dL T D (a::l)=gK (D a) (dL T D l):=b _ _
theorem RQ{T:KT}{h:afd}{n:Nat}{D:O->Option afj}(j:∀ a d v,D a=some d->VR T α N v a->(∃ f,Reads h v d f)/\d.canLay0=true/\d.depth<=n): ∀ {vs l},ah T α N vs l->∀ {b},dL T D l=some b->(∃ f,ReadsAll h vs b f)/\ae8 b=true/\ahg b<=n:=by
 have k:∀ {v vs a l b},VR T α N v a->(∀ {b},dL T D l=some b->(∃ f,ReadsAll h vs b f)/\ae8 b=true/\ahg b<=n)->gK (D a) (dL T D l)=some b-> (∃ f,ReadsAll h (v::vs) b f)/\ae8 b=true/\ahg b<=n:=λW A e=>by refine aH (zf e) ?_;intro d b m o g;subst g;refine bU (j _ _ _ m W) ?_;clear j m;intro g p q;obtain ⟨f,t⟩:=g;refine bU (A o) ?_;clear o;intro g w x;obtain ⟨z,y⟩:=g;exact (bH ⟨_,.cons t y⟩ (ad9.mpr ⟨p,w⟩) (Nat.max_le.mpr ⟨q,x⟩))
 intro vs l r;refine ah.rec (motive_1:=λs s s=>True) (motive_2:=λvs l s=>∀ {b},dL T D l=some b->(∃ f,ReadsAll h vs b f)/\ae8 b=true/\ahg b<=n) trivial (λs=>trivial) (λs s=>trivial) (λs s=>trivial) (λs s s s s s=>trivial) (λs s s=>trivial) (λs s s s=>trivial) (λs=>trivial) (λs=>trivial) (λs s=>trivial) (λs s s s=>trivial) (λs s s s=>trivial) (λs=>trivial) (λs s s=>trivial) ?_ ?_ ?_ ?_ r
 ·intro b e;have g:=aea e;clear e;subst b;exact (bH ⟨_,.nil⟩ rfl (afa _))
 ·intro v a vs l W _ _ A b e;rcases Ft e with ⟨c,u,rfl,_⟩|⟨_,e⟩
  ·exact (V0 W).elim
  ·exact k W A e
 ·intro v a vs l c i W _ _ A b e;rw[nW,i]at e;exact k W A e
 ·intro a vs l c i _ A b e;rw[nW,i]at e;exact A e
theorem DR.reads (R:SR c σ s α N):∀ {a d v},DR W.kt σ.st n a d->VR W.kt α N v a->(∃ f,Reads s.heap v d f)/\d.canLay0=true/\d.depth<=n:=by
 induction n with
 |zero=>intro a d v h P;exact aT h
 |succ n C=>
  intro a d v h F;have L:=@RQ α N W.kt s.heap n (toD W.kt σ.st n) λa d v=>C
  have tup:∀ {x o g m l},s.heap.get? x=some o->o.cls=.type "tuple" ->o.data=.seq (ajl g) m->ah W.kt α N g l->iD W.kt (toD W.kt σ.st n) (.tup l)=some d->
    (∃ f,Reads s.heap (.ref x) d f)/\d.canLay0=true/\d.depth<=n+1:=λw y z r e=>by
   refine Y (sa e) ?_;intro G i A;subst A;refine bU (L r i) λA j k=>?_;obtain ⟨f,p⟩:=A
   exact (bH ⟨_,.tuple w y z p⟩ j (af6 k))
  have D:∀ {x g m l},s.heap.get? x=some (aex (ajl g) m)->ah W.kt α N g l->iD W.kt (toD W.kt σ.st n) (.lst l)=some d->
    (∃ f,Reads s.heap (.ref x) d f)/\d.canLay0=true/\d.depth<=n+1:=λw r e=>by
   refine Y (sa e) ?_;intro G i A;subst A;refine bU (L r i) ?_;clear L;intro A j k;obtain ⟨f,p⟩:=A;exact (bH ⟨_,.list w rfl rfl p⟩ j (af6 k))
  cases F with
  |none=>cases h;exact ⟨⟨_,.none⟩,rfl,afa _⟩
  |bool=>cases h;exact ⟨⟨_,.bool _⟩,rfl,afa _⟩
  |int=>cases h;exact ⟨⟨_,.int _ _⟩,rfl,afa _⟩
  |str t H=>cases h;exact ⟨⟨_,.str _ _⟩,H,afa _⟩
  |tup B I i M r=>exact tup (R.get B) i.1 M r h
  |tupK hl r=>exact tup (R.aZ _ _ hl) rfl rfl r h
  |hl B I r=>exact D (R.get B) r h
  |ref E=>
   have u:iD W.kt (toD W.kt σ.st n) (aeT .bad yn (σ.st.get _))=some d:=h;induction e:σ.st.get _ using aer with
   |none=>rw[e]at u;exact aT u
   |some o=>
    rw[e]at u;refine Y (R.of e E) ?_;clear e E;intro b y z
    cases z with
    |list r=>exact D (R.get y) r u
    |_=>exact aT u
  |ty q=>
   refine bU (C h q) ?_;clear R q;intro p j k;exact ⟨p,j,agX k⟩
  |_=>cases h
theorem EJ{b:Type}{o o':Option b}{r f:Option (List b)}(h:∀ d,o=some d->o'=some d) (g:∀ a,r=some a->f=some a){l}(e:gK o r=some l):gK o' f=some l:=by
 refine aH (zf e) ?_;clear e;intro d a c s A;subst A;rw[h _ c,g _ s];rfl
theorem G8{D f:O->Option afj}(h:∀ a d,D a=some d->f a=some d){l}:∀ {b},dL T D l=some b->dL T f l=some b:=by
 induction l with
 |nil=>exact λe=>e
 |cons a l s=>
  intro b e;rcases Ft e with⟨c,v,rfl,⟨A,e⟩|⟨A,e⟩⟩|⟨N,e⟩
  ·rw[nW,A];exact EJ (h v) (λW=>s) e
  ·rw[nW,A];exact s e
  ·rw[nX N];exact EJ (h a) (λW=>s) e
theorem Fu{f:List afj->afj}{o o' d}(h:∀ a,o=some a->o'=some a) (e:gP f o=some d):gP f o'=some d:=by
 refine Y (sa e) ?_;clear e;intro a c s;subst s;exact congrArg (gP f) (h _ c)
theorem RU{D b:O->Option afj}(h:∀ a d,D a=some d->b a=some d){v d}(e:iD T D v=some d):iD T b v=some d:=by
 induction v using Vw.casesOn with
 |sc=>exact e
 |tup l=>exact Fu (λc=>G8 h) e
 |lst l=>exact Fu (λc=>G8 h) e
 |tok f k=>exact h _ _ e
 |bad=>exact aT e
theorem DR.up1{T st}:∀ {n a d},DR T st n a d->DR T st (n+1) a d
 |0,b,e,h=>nomatch h
 |n+1,a,d,h=>RU (λa d=>DR.up1 (n:=n)) h
theorem DR.up{T st n a d m}(h:DR T st n a d)(b:n<=m):DR T st m a d:=by
 induction b with
 |refl=>exact h
 |step s c=>exact c.up1
noncomputable def ux (st:Tr) (a:O) (v:Vw):Prop:=Vw.casesOn v (λc=>True) (λl=>a=.tup l) (λl=>a=.hl l\/∃ i,a=.ref i/\st.get i=some (.list l)) (λf k=>a=.ty f k) True
theorem Aj{st a}:ux st a (vw st a):=by
 induction a using O.casesOn with
 |tup=>exact rfl
 |hl=>exact .inl rfl
 |ty=>exact rfl
 |ref i=> show ux st (.ref i) (aeT .bad yn (st.get i));induction e:st.get i using aer with
  |none=>exact trivial
  |some o=>induction o using AO.casesOn with
   |list l=>exact .inr ⟨i,rfl,e⟩
   |_=>exact trivial
 |_=>exact trivial
theorem Ak{st a l}(h:vw st a=.tup l):a=.tup l:=(h▸Aj:ux st a (.tup l))
theorem V1{st a l}(h:vw st a=.lst l):a=.hl l\/∃ i,a=.ref i/\st.get i=some (.list l):=(h▸Aj:ux st a (.lst l))
theorem Gn{st a f k}(h:vw st a=.tok f k):a=.ty f k:=(h▸Aj:ux st a (.tok f k))
noncomputable def eD (st:Tr) (a:O):Option (List O):=Vw.casesOn (vw st a) (λc=>none) (λc=>none) some (λc c=>none) none
theorem Fv{st a l}(h:eD st a=some l):vw st a=.lst l:=by
 unfold eD at h
 cases e:vw st a with
 |lst c=>rw[e]at h;exact congrArg _ (aea h)
 |_=>rw[e]at h;exact aT h
theorem DR.sY{T st n a v d}(h:vw st a=v) (q:iD T (toD T st n) v=some d):DR T st (n+1) a d:=(congrArg (iD T (toD T st n)) h).trans q
theorem DR.Al{T st n a l b}(h:vw st a=.lst l) (q:pf T st n l b):DR T st (n+1) a (.list b):=.sY h (congrArg (gP .list) q)
theorem DR.Gp{T st n a l b}(h:vw st a=.tup l) (q:pf T st n l b):DR T st (n+1) a (.tuple b):=.sY h (congrArg (gP .tuple) q)
theorem Uh{T st n a l b}(h:eD st a=some l) (q:pf T st n l b):DR T st (n+1) a (.list b):=.Al (Fv h) q
noncomputable def gv (b:O->Bool):List O->Bool:=aeC true λa c r=>and (et a (λc v=>b v) (b a)) r
noncomputable def G9 (D:O->Bool) (v:Vw):Bool:=Vw.casesOn v (λc=>true) (gv D) (gv D) (λc c=>true) false
noncomputable def iQ (st:Tr):Nat->O->Bool:=afX (λc=>false) λc d a=>G9 d (vw st a)
theorem p9{D:O->Option afj}{b:O->Bool}(g:∀ a,b a=true->∃ d,D a=some d):gv b l=true->∃ f,dL T D l=some f:=by
 induction l with
 |nil=>exact λi=>⟨_,rfl⟩
 |cons a l W=>
  intro h;refine ae (ad9.mp (show and (et a (λj v=>b v) (b a)) (gv b l)=true from h)) ?_;clear h;intro s A
  refine aL (W A) ?_;clear A;intro f r;have go:∀ {v},b v=true->∃ f,gK (D v) (dL T D l)=some f:=λe=>by
   refine aL (g _ e) ?_;clear g e;intro d q;exact⟨_,by rw[q,r];rfl⟩
  rcases fD a with⟨c,v,rfl⟩|N
  ·rw[nW];induction T.cond c using aee with
   |true=>exact go s
   |false=>exact⟨_,r⟩
  ·rw[nX N];exact go ((N _ _).symm.trans s)
theorem Gq{T st n}{b:O->Bool}(e:∀ a,b a=true->∃ d,DR T st n a d)(h:gv b l=true):∃ f,pf T st n l f:=p9 e h
theorem RW{D:O->Option afj}{e:O->Bool}(b:∀ a,e a=true->∃ d,D a=some d) (g:∀ f k,∃ d,D (T.θ f k)=some d) (h:G9 e v=true):∃ d,iD T D v=some d:=by
 induction v using Vw.casesOn with
 |sc d=>exact⟨_,rfl⟩
 |tup l=>refine aL (p9 (T:=T) b h) λc q=>?_;exact⟨_,congrArg (gP .tuple) q⟩
 |lst l=>refine aL (p9 (T:=T) b h) ?_;clear b;intro c q;exact⟨_,congrArg (gP .list) q⟩
 |tok f k=>exact g f k
 |bad=>exact aX h
theorem jg.at{T st}(a:jg T) (n f k):∃ d,DR T st (n+20) (T.θ f k) d:=(aL (a f k st) λd q=>⟨d,q.up (agt 20 n)⟩)
theorem nY{T st}(b:jg T):∀ (n:Nat) a,iQ st n a=true->∃ d,DR T st (n+20) a d
 |0,a,h=>absurd h aeP
 |n+1,a,h=>by rw[ag5];refine aL (RW (T:=T) (nY b n) (b.at n) (v:=vw st a) h) ?_;clear b h;intro d q;exact⟨d,DR.sY (n:=n+20) rfl q⟩
noncomputable def oJ (d:afj):Nat:=afQ (motive_1:=λc=>Nat) d (nat_lit 0) (λc=>nat_lit 1) (λc=>nat_lit 1) (λc=>nat_lit 3) (λc=>nat_lit 5) (λc=>nat_lit 4) (λc=>nat_lit 9)
noncomputable def iL (v:Vw):Nat:=Vw.casesOn v oJ (λc=>nat_lit 4) (λc=>nat_lit 5) (λc c=>nat_lit 9) (nat_lit 9)
theorem Ui{d d':afj}(h:oJ d≠oJ d'):afJ d d'=false:=by
 induction d using afQ<;>induction d' using afQ<;>first|exact absurd rfl h|simp only[afJ]
theorem QE{T D v d}(h:iD T D v=some d) (a:afl (iL v) 9=true):iL v=oJ d:=by
 induction v using Vw.casesOn with
 |sc=>cases h;rfl
 |tup l=>refine Y (sa h) ?_;intro s A c;subst c;rfl
 |lst l=>refine Y (sa h) ?_;clear h;intro s A c;subst c;rfl
 |_=>exact aX a
theorem DR.tag{T st n a d}(h:DR T st (n+1) a d) (b:afl (iL (vw st a)) 9=true):iL (vw st a)=oJ d:=QE h b
noncomputable def M7 (d d':afj):Option Bool:=afQ (motive_1:=λc=>Option Bool) d (some true)
 (λx=>afQ (motive_1:=λc=>Option Bool) d' none (λy=>some (x ==y)) (λc=>none) (λc=>none) (λc=>none) (λc=>none) (λc=>none))
 (λx=>afQ (motive_1:=λc=>Option Bool) d' none (λc=>none) (λy=>some (x ==y)) (λc=>none) (λc=>none) (λc=>none) (λc=>none))
 (λx=>afQ (motive_1:=λc=>Option Bool) d' none (λc=>none) (λc=>none) (λy=>some (seq x y)) (λc=>none) (λc=>none) (λc=>none)) (λc=>none) (λc=>none) (λc=>none)
theorem V2{d d' t}(a:oJ d=oJ d')(h:M7 d d'=some t):afJ d d'=t:=by
 induction d using afQ with
 |none=>induction d' using afQ<;>first|(cases h;simp only[afJ];done)|cases a
 |bool=>induction d' using afQ<;>first|(cases h;simp only[afJ];done)|cases h
 |int=>induction d' using afQ<;>first|(cases h;simp only[afJ];done)|cases h
 |str=>induction d' using afQ<;>first|(cases h;simp only[afJ];exact seq_eq.symm)|cases h
 |_=>cases h
noncomputable def dN{a:Type}(b:Bool)(x:Option a):Option a:=aen none x b
theorem fR{a:Type}{x:Option a}{y}(h:dN b x=some y):b=true/\x=some y:=by
 induction b using aee with
 |true=>exact⟨rfl,h⟩
 |false=>exact aT h
noncomputable def ob (o:Option Bool) (t f:Option Bool):Option Bool:=aeT none (λb=>aen f t b) o
theorem zQ(h:ob o t f=some y):(o=some true/\t=some y)\/(o=some false/\f=some y):=by
 induction o using aer with
 |none=>exact aT h
 |some b=> induction b using aee with
  |true=>exact .inl ⟨rfl,h⟩
  |false=>exact .inr ⟨rfl,h⟩
theorem QF (a b:List afj):afJ (.tuple a) (.tuple b)=agx a b:=by simp only[afJ]
theorem RX (a b:List afj):afJ (.list a) (.list b)=agx a b:=by simp only[afJ]
theorem y7 (a:List afj):ah4 (.tuple a)=ae8 a:=by simp only[ah4]
theorem zc (a:List afj):ah4 (.list a)=ae8 a:=by simp only[ah4]
theorem PE (d:afj)(a:List afj):ae8 (d::a)=(d.canLay0&&ae8 a):=by simp only[ae8]
noncomputable def eq1 (b:O->Bool) (a:O) (l:List O):Option Bool:=et a (λc c=>none) (dN (gv b (a::l)) (some false))
noncomputable def uy (e:O->Bool) (f:O->O->Option Bool):List O->List O->Option Bool:=aeC (motive:=λd=>List O->Option Bool)
 (λr=>aet r (some true) λb r=>eq1 e b r)
 (λa l s r=>aet r (eq1 e a l) λb r=>et a (λc v=>et b (λA N=>dN (aem c A) (ob (f v N) (s r) none)) none) (et b (λd d=>none) (ob (f a b) (s r) (dN (and (gv e l) (gv e r)) (some false)))))
noncomputable def Ha (a:O->Bool) (b:O->O->Option Bool) (v w:Vw):Option Bool:=Vw.casesOn v (λd=>Vw.casesOn w (M7 d) (λc=>none) (λc=>none) (λc c=>none) none)
 (λl=>Vw.casesOn w (λc=>none) (uy a b l) (λc=>none) (λc c=>none) none)
 (λl=>Vw.casesOn w (λc=>none) (λc=>none) (uy a b l) (λc c=>none) none)
 (λf k=>Vw.casesOn w (λc=>none) (λc=>none) (λc=>none) (λs A=>dN (and (aem f s) (aem k A)) (some true)) none) none
noncomputable def Bm (r e:O->Bool) (f:O->O->Option Bool) (a b:O) (v w:Vw):Option Bool:=aen (dN (and (and (afl (iL v) (nat_lit 9)) (afl (iL w) (nat_lit 9))) (and (r a) (r b))) (some false)) (Ha e f v w) (aem (iL v) (iL w))
noncomputable def lK (st:Tr):Nat->O->O->Option Bool:=afX (λc c=>none) λn d a b=>Bm (iQ st (afb n)) (iQ st n) d a b (vw st a) (vw st b)
noncomputable def Cu(D:O->Option afj)(a b:O)(t:Bool):Prop:=∃ d c,D a=some d/\D b=some c/\(d.canLay0=true->c.canLay0=true->afJ d c=t)
noncomputable def oK(T:KT)(D:O->Option afj)(l r:List O)(t:Bool):Prop:=∃ c d,dL T D l=some c/\dL T D r=some d/\(ae8 c=true->ae8 d=true->agx c d=t)
theorem Gr{D:O->Option afj}{b:O->Bool}(e:∀ a,b a=true->∃ d,D a=some d){a l t}(h:eq1 b a l=some t):t=false/\∃ d f,dL T D (a::l)=some (d::f):=by
 unfold eq1 at h;rcases fD a with⟨c,v,rfl⟩|A
 ·exact aT h
 ·refine ae (fR ((A _ _).symm.trans h)) ?_;clear h;intro N W;refine aL (p9 (T:=T) e N) ?_;clear e N;intro f q;have s:=q;rw[nX A]at s;refine aH (zf s) ?_;clear s;intro d g i i j;subst j;exact (XS ((aea W).symm) d g q)
theorem QG{d a}:agx [] (d::a)=false:=by simp only [agx]
theorem QH{d a}:agx (d::a) []=false:=by simp only [agx]
theorem oK.cons{T:KT}{D:O->Option afj}{a b l r t t'}(h:Cu D a b t) (h':oK T D l r t'):∃ e f,gK (D a) (dL T D l)=some e/\gK (D b) (dL T D r)=some f/\(ae8 e=true->ae8 f=true->agx e f=(t&&t')):=by
 refine aH h ?_;clear h;intro d k A N W;refine aH h' ?_;clear h';intro e f g i j;rw[A,N,g,i];refine (bB _ _ rfl rfl (λc s=>?_))
 have c:=ad9.mp c;have s:=ad9.mp s;exact congr (congrArg and (W c.1 s.1)) (j c.2 s.2)
theorem Gs{D:O->Option afj}{f:O->Bool}{g:O->O->Option Bool}(i:∀ a,f a=true->∃ d,D a=some d) (o:∀ a b t,g a b=some t->Cu D a b t){l}:∀ {r t},uy f g l r=some t->oK T D l r t:=by
 induction l with
 |nil=>
  intro r t h;induction r using aet with
  |nil=>have W:=aea h;clear h;subst t;exact⟨_,_,rfl,rfl,λs s=>rfl⟩
  |cons b r=>
  refine G6 (Gr (T:=T) i (show eq1 f b r=some t from h)) ?_;intro W d j e;subst W;exact⟨_,_,rfl,e,λs s=>QG⟩
 |cons a l p=>
  intro r t h;induction r using aet with
  |nil=>
  refine G6 (Gr (T:=T) i (show eq1 f a l=some t from h)) ?_;intro W d j e;subst W;exact⟨_,_,e,rfl,λs s=>QH⟩
  |cons b r=>
  have q:et a (λc v=>et b (λu w=>dN (aem c u) (ob (g v w) (uy f g l r) none)) none) (et b (λs s=>none) (ob (g a b) (uy f g l r) (dN (and (gv f l) (gv f r)) (some false))))=some t:=h
  unfold oK;rcases fD a with⟨c,v,rfl⟩|x
  ·rcases fD b with⟨u,w,rfl⟩|k
   ·refine ae (fR q) λE m=>?_
    obtain rfl:=aed E;rcases zQ m with⟨N,A⟩|⟨_,A⟩
    ·rw[nW,nW];induction T.cond c using aee with
     |true=>exact oK.cons (o _ _ _ N) (p A)
     |false=>exact p A
    ·exact aT A
   ·exact nomatch (k _ _).symm.trans q
  ·have m:=(x _ _).symm.trans q;rcases fD b with⟨u,w,rfl⟩|k
   ·exact aT m
   ·have A:=(k _ _).symm.trans m;rw[nX x,nX k];rcases zQ A with⟨N,n⟩|⟨N,n⟩
    ·exact oK.cons (o _ _ _ N) (p n)
    ·refine ae (fR n) ?_;clear n;intro y F;refine ae (ad9.mp y) ?_;clear y;intro z B;refine aL (p9 (T:=T) i z) ?_;clear z;intro j G;refine aL (p9 (T:=T) i B) ?_;clear i B;intro C H;obtain rfl:=aea F;exact oK.cons (t':=agx j C) (o _ _ _ N) (bB j C G H (λs s=>rfl))
theorem RY{D:O->Option afj}{j:O->Bool}{m:O->O->Option Bool}(g:∀ a,j a=true->∃ d,D a=some d) (i:∀ a b t,m a b=some t->Cu D a b t) (n:∀ f k,∃ d,D (T.θ f k)=some d){v w t}(e:iL v=iL w) (h:Ha j m v w=some t):
  ∃ d d',iD T D v=some d/\iD T D w=some d'/\(d.canLay0=true->d'.canLay0=true->afJ d d'=t):=by
 induction v using Vw.casesOn with
 |sc d=>induction w using Vw.casesOn with
  |sc d'=>exact⟨d,d',rfl,rfl,λo o=>V2 e h⟩
  |_=>exact aT h
 |tup l=>induction w using Vw.casesOn with
  |tup r=>refine aH (Gs (T:=T) g i h) λu x s A N=>?_;exact⟨_,_,congrArg (gP .tuple) s,congrArg (gP .tuple) A,λc W=>(QF _ _).trans (N (y7 _▸c) (y7 _▸W))⟩
  |_=>exact aT h
 |lst l=>induction w using Vw.casesOn with
  |lst r=>refine aH (Gs (T:=T) g i h) ?_;clear g i;intro u x s A N;exact⟨_,_,congrArg (gP .list) s,congrArg (gP .list) A,λc W=>(RX _ _).trans (N (zc _▸c) (zc _▸W))⟩
  |_=>exact aT h
 |tok f k=>induction w using Vw.casesOn with
  |tok C E=>
   refine ae (fR h) λp y=>?_
   obtain rfl:=aea y;refine ae (ad9.mp p) ?_;clear p;intro z B;obtain rfl:=aed z;obtain rfl:=aed B;refine aL (n f k) ?_;clear n;intro d q;exact⟨d,d,q,q,λc o=>SeqAt.eqv_refl d c⟩
  |_=>exact aT h
 |bad=>exact aT h
theorem Am{T st}(g:jg T):∀ (n:Nat) a b t,lK st n a b=some t->∃ d d',DR T st (n+20) a d/\DR T st (n+20) b d'/\(d.canLay0=true->d'.canLay0=true->afJ d d'=t):=by
 intro n;induction n with
 |zero=>intro a b t h;exact aT h
 |succ n j=>
  intro a b t h;have h:Bm (iQ st (n+1)) (iQ st n) (lK st n) a b (vw st a) (vw st b)=some t:=h;unfold Bm at h;induction e:aem (iL (vw st a)) (iL (vw st b)) using aee with
  |false=>
   rw[e]at h;refine ae (fR h) λc k=>?_
   obtain rfl:=aea k;refine ae (ad9.mp c) ?_;clear c;intro s A;refine ae (ad9.mp s) ?_;clear s;intro l m;refine ae (ad9.mp A) ?_;clear A;intro N W;rw[ag5];have f:=nY (st:=st) g (n+1);rw[ag5]at f;refine aL (f a N) ?_;clear N;intro d q;refine aL (f b W) ?_;clear f W;intro d' i;exact⟨d,d',q,i,λo o=>Ui λz=>aid e ((DR.tag (n:=n+20) q l).trans (z.trans (DR.tag (n:=n+20) i m).symm))⟩
  |true=>
   rw[e]at h;rw[ag5];refine aH (RY (T:=T) (nY g n) j (g.at n) (aed e) h) ?_;clear g e h;intro d d' p r u;exact (bB d d' (DR.sY (n:=n+20) rfl p) (DR.sY (n:=n+20) rfl r) u)
end
section
variable{W:Wd}{c:Cx W}{A:aeX}{d:Nat}
theorem bO(h:Rs.no=y)(a:y≠.no){P:Prop}:P:=absurd h.symm a
@[elab_as_elim]theorem gE{b:Type}{z y₀:b}{f:Str->b}{C:aec->Prop}(e:VR T α N v a) (h:afD z a f=y₀) (g:y₀≠z) (k:∀ x t,a=.str x->afg x=true->f x=y₀->C (.str x t)):C v:=by
 refine Y (gD h g) ?_;clear h g;intro x c h;subst c;refine Y e.inv ?_;clear e;intro t c d;subst c;exact k x t rfl d h
@[elab_as_elim]theorem i3{b:Type}{z y₀:b}{f:Int->b}{C:aec->Prop}(e:VR T α N v a) (h:dR z a f=y₀) (g:y₀≠z) (k:∀ i t,a=.int i->f i=y₀->C (.int i t)):C v:=by
 refine Y (jT h g) ?_;clear h g;intro x c h;subst c;refine aL e.inv ?_;clear e;intro t c;subst c;exact k x t rfl h
@[elab_as_elim]theorem zj{g:Type}{z y₀:g}{f:Bool->g}{C:aec->Prop}(j:VR T α N v a) (h:i8 z a f=y₀) (i:y₀≠z) (k:∀ b,a=.bool b->f b=y₀->C (.bool b)):C v:=by
 refine Y (pR h i) ?_;clear h i;intro x c h;subst c;have e:v=.bool x:=j.inv;subst e;exact k x rfl h
@[elab_as_elim]theorem l9 (R:SR c σ s α N){j:Type}{z y₀:j}{f:Nat->AO->j}{C:aec->Prop}(l:VR W.kt α N v a) (h:dZ z σ.st a f=y₀) (g:y₀≠z) (k:∀ i x b o,a=.ref i->α[i]?=some x->(x,b)∈N->σ.st.get i=some o->OR W α N i b o->f i o=y₀->C (.ref x)):C v:=by
 refine Y (i0 h g) ?_;clear h;intro i d h;subst d;refine Y (aR h g) ?_;clear h g;intro o e h;refine Y l.inv ?_;clear l;intro x d A;subst d;refine Y (R.of e A) ?_;clear R;intro b m n;exact k i x b o rfl A m e n h
@[elab_as_elim]theorem kG (R:SR c σ s α N){l:Type}{z y₀:l}{f:List (Str×O)->l}{C:aec->Prop}(m:VR W.kt α N v a) (h:dZ z σ.st a (λg o=>ix z o f)=y₀) (j:y₀≠z) (k:∀ x e kvs,(x ==afS)=false->s.heap.DictOf (ae2 W.prog W.w) x kvs->aU W.kt α N kvs e->f e=y₀->C (.ref x)):C v:=
 l9 R m h j λi x b o g g d g A h=>by refine Y (l5 h j) ?_;clear h j;intro e n h;subst n;refine Y A.inv ?_;clear A;intro kvs p q;exact k x e kvs (R.hi _ (aef _ d)) (af3.mpr (ay _ (R.get d) p)) q h
theorem aO{a:Type}{b:a}:some b≠none:=nofun
theorem eW{α:Type}{l:List (Str×α)}:∀ {n:Nat}{x:Str}{k:α},(l.map (·.1)).Nodup->l[n]?=some (x,k)->l.lookup x=some k:=by
 induction l with
 |nil=>intro n x k W h;exact aT h
 |cons y l d=> obtain⟨y,a⟩:=y;intro n x k c h;induction n using aez with
  |zero=>cases h;rw[afq,beq_self_eq_true]
  |succ n=>
  rw[aeL,aeU]at c;rw[afq];have A:x∈l.map (·.1):=by simpa using aew (f:=(·.1)) (aeM (by simpa using h:l[n]?=some (x,k)))
  have:(x ==y)=false:=beq_eq_false_iff_ne.mpr λe=>c.1 (e▸A)
  rw[this];exact d c.2 h
noncomputable def we{α:Type}(l:List α) (n:Nat):Bool:=aeC (motive:=λc=>Nat->Bool) (λc=>true) (λc c d n=>aen (d (agf n)) false (aem n (nat_lit 0))) l n
theorem i4{α:Type}:∀ {l:List α}{n:Nat},we l n=true->l.length<=n
 |[],n,b=>afa _
 |a::l,n,h=>by
  have h':(aen (motive:=λe=>Bool) (we l (agf n)) false (aem n 0))=true:=h
  induction n using aez with
  |zero=>exact aX h'
  |succ n=>exact af6 (i4 (l:=l) h')
noncomputable def cC(a:O):Ev:=λc k=>k a c
noncomputable def An (a:Const):Option O:=match a with
 |.none=>some .none
 |.bool b=>some (.bool b)
 |.int i=>some (.int i)
 |.str x=>dN (afg x) (some (.str x))
 |_=>none
theorem sZ (b:An f=some a):aE c A (.Constant f kk pos) (cC a):=by
 intro i k y h j s l N E R m Q d;induction f using Const.casesOn with
 |none=>have W:=aea b;clear b;subst a;exact Constant_none (d _ _ _ _ _ _ h R .refl .none)
 |bool=>have W:=aea b;clear b;subst a;exact Constant_bool (d _ _ _ _ _ _ h R .refl (.bool _))
 |int=>have W:=aea b;clear b;subst a;exact wpAny_Constant_int (d _ _ _ _ _ _ h R.toks .refl (.int _ _))
 |str=>refine ae (fR b) λg e=>?_;have W:=aea e;clear e;subst a;exact Constant_str (d _ _ _ _ _ _ h R.toks .refl (.str _ g))
 |_=>exact aT b
noncomputable def cH(x:Str):Bool:=!(x ==("__debug__" :Str))&&!(x ==("__classdict__" :Str))
noncomputable def J (n:Nat):Ev:=λd k=>LS.rec (motive:=λc=>Rs) (λl c c c c c=>aeC (motive:=λc=>Rs) .no (λe c A=>Prod.rec (motive:=λc=>Rs) (λm v=>aen (motive:=λc=>Rs) A (k v d) (aem n m)) e) l) d
theorem nO:J n σ k=aD .no (lk n σ.loc) λv=>k v σ:=by
 show (aeC (motive:=λc=>Rs) .no (λe c d=>Prod.rec (motive:=λc=>Rs) (λm v=>aen (motive:=λc=>Rs) d (k v σ) (aem n m)) e) σ.loc)=_
 induction σ.loc with
 |nil=>rfl
 |cons e l d=>
  show aen (motive:=λc=>Rs) _ (k e.2 σ) (aem n e.1)=aeT Rs.no (λv=>k v σ) (aen (motive:=λc=>Option O) (lk n l) (some e.2) (aem n e.1))
  induction aem n e.1 using aee with
  |false=>exact d
  |true=>rfl
theorem ek.at (h:ek W sc loc α N m) (e:lk n loc=some v) (a:sc.names[n]?=some (x,k)):∃ val,m x=some val/\VR W.kt α N val v:=by
 refine cg (h n v e) ?_;clear h e;intro b f val c d A
 cases (aea (a.symm.trans c))
 exact (ay val d A)
theorem kO (a:ak c) (b:c.scope.names[n]?=some (x,.local)) (e:cH x=true):aE c A (.Name x pos) (J n):=by
 intro B k y h i s C N E R D Q j;have e:=(aeK _).mp (ad9.mp e).1;refine Y R.fr λm F d=>?_
 have W:=a.locs;have l:=eW a.cV b;rw[nO]at h;refine Y (aR h i) ?_;clear h i;intro v f h;unfold NR at d;induction q:c.comp using aer with
 |none=>
  rw[q]at d W;refine Y (d.at f b) λval g t=>?_
  exact ajf (air a.kind l (W▸F.ns) g (j _ _ _ _ _ _ h R .refl t)) e
 |some p=>
  rw[q]at d W;refine kL d ?_;clear d;intro G o H g u r;refine Y (r.at f b) ?_;clear r f b;intro val w z;exact ajf (air a.kind l (W▸u.ns (R.news.get (aek _ g))) w (j _ _ _ _ _ _ h R .refl z)) e
noncomputable def aA (n:Nat):Ev:=λc k=>aD .no (lk n c.aK) λi=>aD .no (c.st.get i) λo=>p8 .no o λv=>aD .no v λv=>k v c
theorem Uj (f:ak c) (hk:g=.cell\/g=.free) (j:c.scope.names[n]?=some (x,g)) (e:cH x=true):aE c A (.Name x pos) (aA n):=by
 intro H k y h d s I N E R L Q w;have e:=ad9.mp e;have l:=(aeK _).mp e.1;have m:=eW f.cV j;refine Y (aR h d) λi z h=>?_
 refine Y (aR h d) λo B h=>?_
 refine Y (vl h d) ?_;clear h;intro v W h;subst W;refine Y (aR h d) ?_;clear h d;intro v W h;subst W;refine cg (R.aK n i z) λM P a C p D=>?_
 cases (aea (j.symm.trans C))
 refine Y (R.of B D) λb r F=>?_
 refine Y F.inv λu t G=>?_
 have q:=w _ _ _ _ _ _ h R .refl G;rcases hk with rfl|rfl
 ·exact ajf (wpAny_loadName_cell f.kind m p (ay b (R.get r) t) q) l
 ·exact ajf (wpAny_loadName_free f.kind m p (ay b (R.get r) t) q ((aeK _).mp e.2)) l
theorem RZ (a:ak c){x:Str}{n:Nat}{pos:Pos}{v:O}(f:c.scope.names[n]?=some (x,.globalImplicit)) (b:cH x=true) (e:W.G.name x=some v):aE c A (.Name x pos) (cC v):=by
 intro o k y h q s d N E R r Q g;simp only[cH,ae4,aeK]at b;refine Y R.fr λm F t=>?_
 have i:=eW a.cV f;refine gH a.top λp u w z T=>?_
 refine Y (a.g.name x v e d N) ?_;clear e;intro val j l;exact ahz a.kind i (loadGlobal_global (env:=c.env) (by rw[a.iE];exact T.g.keeps F.keep) (mg_of a.aZ T.g j) (g _ _ _ _ _ _ h R .refl l)) b.1
theorem jX (a:ak c){x:Str}{n:Nat}(f:c.scope.names[n]?=some (x,.globalImplicit)) (b:cH x=true) (e:W.G.boot x=true) (g:ahV x=some v){s:aeg}{α N}(R:SR c σ s α N) {Q:aec->aeg->Prop}{E:aec->aeg->Prop}(h:Q v s):WP W A (eval (.Name x pos) c.env) Q E s:=by
 simp only[cH,ae4,aeK]at b;refine Y R.fr ?_;clear R;intro m F k;have d:=eW a.cV f;refine gH a.top λp l o q T=>?_
 refine ae (a.g.boot x e) ?_;clear e;intro i j;exact ahz a.kind d (loadGlobal_builtin (env:=c.env) (by rw[a.iE];exact T.g.keeps F.keep) (mg_none_of a.aZ T.g i) (by rw[a.qA];exact T.b.keeps F.keep) ((T.builtins x j).trans g) h) b.1
noncomputable def bC (t:Tc) (a b:Ev):Ev:=λc k=>t c λq c=>aen (b c k) (a c k) q
theorem Uk (i:dz c A t j) (l:aE c A a m) (n:aE c A b o):aE c A (.IfExp t a b pos) (bC j m o):=by
 intro p k y h W s r N E R e Q f;refine IfExp_ (i p _ y h W s r N E R e _ λq u v w x h g d=>?_)
 induction q using aee
 ·rw[if_neg (by decide)];exact n _ _ _ h W _ _ _ _ g (e.step d.kp) _ (f.step d)
 ·rw[if_pos rfl];exact l _ _ _ h W _ _ _ _ g (e.step d.kp) _ (f.step d)
noncomputable def M8 (a:O):Option Bool:=O.casesOn (motive_1:=λc=>Option Bool) a (some true) (λc=>some false) (λc=>some false) (λc=>some false) (λc=>some false) (λc=>some false) (λc c=>none) (λc=>some false) (λc=>some false)
 (λf c=>aen (dN (aem f (nat_lit 5)) (some false)) (some false) (aem f (nat_lit 0))) (λc c=>some false) (λc c=>some false) none (λc=>none)
noncomputable def isQ (a b:O):Option Bool:=O.casesOn (motive_1:=λc=>Option Bool) b (M8 a) (λy=>i8 none a λx=>some (x ==y)) (λc=>none) (λc=>none) (λc=>none) (λc=>none) (λc c=>none) (λc=>none) (λc=>none) (λc c=>none) (λc c=>none) (λc c=>none) none (λc=>none)
noncomputable def ph (st:Tr) (a:O):List O->Option Bool:=aeC (some false) λb l c=>et b (λd d=>none) (ob (lK st (nat_lit 20) b a) (dN (gv (iQ st (nat_lit 20)) l) (some true)) c)
noncomputable def xf (x:Str) (a:List (Str×O)):Bool:=aeT false (λc=>true) (bw x a)
noncomputable def yp (st:Tr) (a:List (Str×O)) (f:List (Str×O)):Option Bool:=aeC (some true) (λe d c=>aeT (some false) (λy=>aD none (lK st (nat_lit 20) e.2 y) λt=>aD none c λb=>some (and t b)) (bw e.1 a)) f
noncomputable def iF (st:Tr)(a:O):Option (List (Str×O)):=dZ none st a λc o=>ix none o some
noncomputable def tL (st:Tr) (a b:O):Option Bool:=aeT (lK st (nat_lit 20) a b) (λc=>aD none (iF st b) λd=>aen (some false) (yp st d c) (aem c.length d.length)) (iF st a)
noncomputable def uz (st:Tr) (a b:O):Option Bool:=afD (tL st a b) a λx=>afD (tL st a b) b λy=>some (seq x y)
theorem V3{st:Tr}{a b:O}:uz st a b=tL st a b:=by
 by_cases h:uz st a b=tL st a b
 ·exact h
 ·refine Y (gD (show afD _ a _=_ from rfl) h) ?_;intro x c d;subst c;refine Y (gD d h) ?_;clear d h;intro y c A;subst c;rfl
noncomputable def ls (x:Str) (l:List O):Bool->Option Bool:=aeC (motive:=λd=>Bool->Option Bool) (λc=>some c) (λb d A c=>afD none b λy=>A (or c (seq y x))) l
theorem Fw{st:Tr}{x:Str}:∀ {l:List O}{a t:Bool},ls x l a=some t->gv (iQ st (nat_lit 20)) l=true
 |[],g,i,j=>rfl
 |b::l,a,t,h=>by
  refine Y (gD (show afD none b (λy=>ls x l (or a (seq y x)))=_ from h) aO) ?_;clear h;intro y e f;subst e
  exact Fw (l:=l) f
theorem EK:∀ {l:List O}{t:Bool},ls x l true=some t->t=true
 |[],t,h=>(aea h).symm
 |b::l,t,h=>by
  refine Y (gD (show afD none b (λy=>ls x l (or true (seq y x)))=_ from h) aO) ?_;clear h;intro y a e;subst a
  exact EK (l:=l) e
theorem Fx{st:Tr}{x:Str}:∀ {l:List O}{t:Bool},ls x l false=some t->ph st (.str x) l=some t
 |[],t,h=>h
 |b::l,t,h=>by
  refine Y (gD (show afD none b (λy=>ls x l (or false (seq y x)))=_ from h) aO) ?_;clear h;intro y f a;subst f
  show ob (some (seq y x)) (dN (gv (iQ st (nat_lit 20)) l) (some true)) (ph st (.str x) l)=_;induction e:seq y x using aee with
  |true=>
   rw[e]at a;rw[EK a,Fw a];rfl
  |false=>
   rw[e]at a;exact Fx a
noncomputable def qY (st:Tr) (a:O) (l:List O):Option Bool:=dN (iQ st (nat_lit 20) a) (ph st a l)
noncomputable def rz (st:Tr) (a:O) (l:List O):Option Bool:=afD (qY st a l) a λx=>aeT (qY st a l) some (ls x l false)
theorem Gu{st:Tr}{l:List O}:rz st a l=qY st a l:=by
 by_cases h:rz st a l=qY st a l
 ·exact h
 ·refine Y (gD (show afD _ a _=_ from rfl) h) ?_;intro x A d;subst A;induction c:ls x l false using aer with
  |none=>rw[c]at d;exact absurd d.symm h
  |some t=> show (aeT (qY st (.str x) l) some (ls x l false):Option Bool)=ph st (.str x) l;rw[c,Fx c]
noncomputable def uA (st:Tr) (a b:O):Option Bool:=Vw.casesOn (vw st b) (λc=>none) (rz st a) (rz st a) (λf c=>dN (aem f (nat_lit 2)) (j1 none a (some false))) (aD none (iF st b) λd=>afD none a λx=>some (xf x d))
noncomputable def xg (o:Option Bool):Option Bool:=aD none o λb=>some (not b)
noncomputable def xh (f:Int->Int->Bool)(a b:O):Option Bool:=dR none a λx=>dR none b λy=>some (f x y)
noncomputable def xi (op:CmpOp) (st:Tr) (a b:O):Option Bool:=match op with
 |.Is=>isQ a b
 |.IsNot=>xg (isQ a b)
 |.Eq=>uz st a b
 |.NotEq=>xg (uz st a b)
 |.In=>uA st a b
 |.NotIn=>xg (uA st a b)
 |.Lt=>xh (λx y=>decide (x<y)) a b
 |.Gt=>xh (λx y=>decide (x>y)) a b
 |.GtE=>xh (λx y=>decide (x ≥ y)) a b
 |_=>none
theorem aU.look{K α N x}{bs abs}(a:aU K α N bs abs):match abs.lookup x with
  |some v=>∃ val,ah5 bs x=some val/\VR K α N val v
  |none=>ah5 bs x=none:=by
 induction a with
 |nil=>rfl
 |@cons y c A bs W h r d=>
  rw[afq];by_cases q:x=y
  ·subst q;rw[beq_self_eq_true];exact (ay _ (by unfold ah5;rw[List.find?_cons_of_pos (by simp)];rfl) h)
  ·rw[beq_eq_false_iff_ne.mpr q];have e:ah5 ((y,c)::bs) x=ah5 bs x:=by unfold ah5;rw[List.find?_cons_of_neg (by simpa using λz=>q z.symm)]
   rw[e];exact d
noncomputable def jx (W:Wd) (A:aeX) (s:aeg) (E:aec->aeg->Prop) (op e:CmpOp) (a b:aec) (t:Bool):Prop:=∀ Q:aec->aeg->Prop,((∀ c,Q (.bool t) {s with toks:=c})->WP W A (ahw op a b) Q E s)/\((∀ c,Q (.bool (!t)) {s with toks:=c})->WP W A (ahw e a b) Q E s)
theorem jx.of (h:∀ {Q:aec->aeg->Prop},Q (.bool t) s->WP W A (ahw op a b) Q E s) (h':∀ {Q:aec->aeg->Prop},Q (.bool (!t)) s->WP W A (ahw e a b) Q E s):jx W A s E op e a b t:=λc=>⟨λk=>h (k s.toks),λk=>h' (k s.toks)⟩
theorem V4 (h:ak c) (l:VR W.kt α N m a) (e:M8 a=some b){E:aec->aeg->Prop}:jx W A s E .Is .IsNot m .none b:=by
 have j:∀ {x},some false=some b->jx W A s E .Is .IsNot (.ref x) .none b:=λe=>by obtain rfl:=aea e;exact .of is_ref_none isnot_ref_none
 induction l using VR.casesOn with
 |none=>obtain rfl:=aea e;exact .of is_none_none isnot_none_none
 |bool=>obtain rfl:=aea e;exact .of is_bool_none isnot_bool_none
 |int=>obtain rfl:=aea e;exact .of is_int_none isnot_int_none
 |str=>obtain rfl:=aea e;exact .of is_str_none isnot_str_none
 |@ty p f k q=>
  have d:(aen (dN (aem f 5) (some false)) (some false) (aem f 0):Option Bool)=some b:=e;induction i:aem f 0 using aee with
  |true=>
   rw[i]at d;obtain rfl:=aed i;refine be (h.g.M5 k) λx r g u=>?_
   have q:=(g▸q).inv;rcases q with⟨a,_,_,_,rfl,_⟩|⟨a,_,_,_,rfl,_⟩<;>exact j d
  |false=>
   rw[i]at d;refine ae (fR d) ?_;clear d;intro n d;obtain rfl:=aea d;obtain rfl:=aed n;refine aL (h.g.sk k) ?_;clear h;intro x g;refine Y ((g▸q).inv) ?_;clear q g;intro t o v;subst o;exact .of is_str_none isnot_str_none
 |bR=>exact aT e
 |fk=>exact aT e
 |_=>exact j e
theorem V5{σ:LS}(m:jg W.kt){l:List O}:∀ {t:Bool},ph σ.st a l=some t->∃ ds,pf W.kt σ.st 40 l ds/\∀ d,DR W.kt σ.st 40 a d->d.canLay0=true->ae8 ds=true->(ds.any λy=>afJ y d)=t:=by
 induction l with
 |nil=>intro t h;exact⟨[],rfl,λA A A A=>aea h⟩
 |cons b l q=>
  intro t h;have h:et b (λA A=>none) (ob (lK σ.st 20 b a) (dN (gv (iQ σ.st 20) l) (some true)) (ph σ.st a l))=some t:=h
  rcases fD b with⟨c,v,rfl⟩|n
  ·exact aT h
  ·have h:=(n _ _).symm.trans h;have go:∀ {o p},lK σ.st 20 b a=some o->(∃ ds,pf W.kt σ.st 40 l ds/\∀ d,DR W.kt σ.st 40 a d->d.canLay0=true->ae8 ds=true->(o ||ds.any λy=>afJ y d)=p)->∃ ds,pf W.kt σ.st 40 (b::l) ds/\∀ d,DR W.kt σ.st 40 a d->d.canLay0=true->ae8 ds=true->(ds.any λy=>afJ y d)=p:=λg i=>by
    refine aH (Am m 20 _ _ _ g) λs z u w x=>?_
    refine Y i ?_;clear i;intro ds r f;refine (ay (s::ds) ((nX n).trans ?_) (λd j k e=>?_))
    ·rw[show toD W.kt σ.st 40 b=_ from u,show dL _ _ l=_ from r];rfl
    ·have e:=ad9.mp ((PE _ _).symm.trans e);obtain rfl:=aea (w.symm.trans j);rw[afr,x e.1 k];exact f _ j k e.2
   rcases zQ h with⟨g,h⟩|⟨g,h⟩
   ·refine ae (fR h) ?_;clear h;intro i h;refine aL (Gq (nY m 20) i) ?_;clear i;intro ds r;exact go g (ay ds r (λA A A A=>(Bool.true_or _).trans (aea h)))
   ·refine Y (q h) ?_;clear m h;intro ds r f;exact go g (ay ds r (λd j k e=>(ajL _).trans (f d j k e)))
noncomputable def wg (a b:O):Bool:=O.casesOn (motive_1:=λc=>Bool) a (j1 false b true) (λx=>i8 false b λy=>x ==y) (λc=>false) (λx=>afD false b λy=>seq x y) (λc=>false) (λc=>false) (λc c=>false) (λc=>false) (λx=>qs false b λy=>aem x y)
 (λc c=>false) (λc c=>false) (λc c=>false) false (λc=>false)
theorem EL (h:wg a b=true):a=b:=by
 have c:true≠false:=nofun;induction a using O.casesOn with
 |none=>exact (nK h c).1.symm
 |bool=>refine Y (pR h c) ?_;intro y d A;subst d;exact congrArg _ (eq_of_beq A)
 |str=>refine Y (gD h c) ?_;intro y d A;subst d;exact congrArg _ (gG.mp A)
 |glob=>refine Y (vq h c) ?_;clear c;intro y d A;subst d;exact congrArg _ (aed A)
 |_=>exact aX h
noncomputable def iR{b:Type}(z:b) (l:List O) (f:O->b):b:=aet l z λa l=>aet l (f a) λc c=>z
theorem jb{b:Type}{z y₀:b}{f:O->b}(h:iR z l f=y₀)(e:y₀≠z):∃ a,l=[a]/\f a=y₀:=by
 induction l using aet with
 |nil=>exact absurd h.symm e
 |cons a l=>induction l using aet with
  |nil=>exact⟨a,rfl,h⟩
  |cons=>exact absurd h.symm e
noncomputable def Bn (g:O->O->Bool) (a b:O):Bool:=cD (wg a b) a λl=>iR false l λx=>cD false b λr=>iR false r λy=>g x y
theorem Fy{g:O->O->Bool}(f:∀ {x y},g x y=true->x=y) (h:Bn g a b=true):a=b:=by
 by_cases q:true=wg a b
 ·exact EL q.symm
 ·have d:true≠false:=nofun;refine Y (dO h q) ?_;clear h q;intro l c A;subst c;refine Y (jb A d) ?_;clear A;intro x c W;subst c;refine Y (dO W d) ?_;clear W;intro r c e;subst c;refine Y (jb e d) ?_;clear e d;intro y c i;subst c;rw[f i]
noncomputable def xj:O->O->Bool:=Bn (Bn wg)
theorem Ul (h:xj a b=true):a=b:=Fy (Fy EL) h
noncomputable def join (a b:Rs):Rs:=Rs.casesOn a (λv=>Rs.casesOn b (λc=>aN .no (xj v c) (.ok v)) (λd=>.no) .no) (λC=>Rs.casesOn b (λd=>.no) (λA=>aN .no (aem C A) (.exc C)) .no) .no
theorem mc (h:join a b=y) (f:y≠.no):a=y/\b=y:=by
 induction a using Rs.casesOn with
 |ok v=>induction b using Rs.casesOn with
  |ok d=>refine ae (aS h f) ?_;intro e c;subst c;rw[Ul e];exact⟨rfl,rfl⟩
  |_=>exact bO h f
 |exc C=>induction b using Rs.casesOn with
  |exc A=>refine ae (aS h f) ?_;intro e c;subst c;rw[aed e];exact⟨rfl,rfl⟩
  |_=>exact bO h f
 |no=>exact bO h f
theorem zF(a:aP c d A):A.units+64<cLine:=by have:=a.units;show _<9900;omega
theorem Ef(a:aP c d A):A.units+200<cLine:=by have:=a.units;show _<9900;omega
theorem PZ(a:aP c d A):A.in1.units+64<cLine:=by
 have h:=a.units;have W:A.in1.units<=A.units+1:=aeu _;have b:cLine=9900:=rfl;omega
theorem DR.read{σ:LS}(R:SR c σ s α N){d:afj}{v:aec}(h:DR W.kt σ.st 40 a d) (b:VR W.kt α N v a):(∃ e,Reads s.heap v d e)/\d.canLay0=true/\SeqAt.shaped d=true:=
 (bU (h.reads R b) λf A g=>(bH f A (ad9.mpr ⟨A,decide_eq_true (aev g (by decide))⟩)))
theorem Eg (h:ais (.tuple a)<=n):ahg a<=n:=by simp only[ais]at h;omega
theorem Eh (h:ais (.list a)<=n):ahg a<=n:=by simp only[ais]at h;omega
theorem room_in(a:A.units+200<cLine)(h:x<=41):A.units+1+min x y<cLine:=by
 have:min x y<=x:=Nat.min_le_left _ _;omega
theorem Ao (r:ak c) (z:aP c d A) (R:SR c σ s α N) (w:VR W.kt α N B a) (u:VR W.kt α N C b) (g:vw σ.st b=.tup l\/vw σ.st b=.lst l) (h:qY σ.st a l=some t):jx W A s E .In .NotIn B C t:=by
 refine ae (fR h) ?_;clear h;intro x h;refine aL (nY r.g.tok 20 _ x) ?_;clear x;intro y v;refine bU (v.reads R w) ?_;clear w;intro j i F;obtain⟨G,o⟩:=j;refine Y (V5 r.g.tok h) ?_;clear r h;intro H q f;have p:=Ef z;rcases g with g|g
 ·refine bU ((DR.Gp g q).reads R u) λj e m=>?_;obtain⟨D,n⟩:=j
  have e:=(y7 _).symm.trans e;obtain rfl:=f y v i e;exact .of (λk=>SeqAt.in_tuple_reads n o e i (room_in p (Eg m)) k) (λk=>SeqAt.notIn_tuple_reads n o e i (room_in p (Eg m)) k)
 ·refine bU ((DR.Al g q).reads R u) ?_;clear R g q u;intro j e m;obtain⟨D,n⟩:=j;have e:=(zc _).symm.trans e;obtain rfl:=f y v i e;exact .of (λk=>SeqAt.in_list_reads n o e i (room_in p (Eh m)) k) (λk=>SeqAt.notIn_list_reads n o e i (room_in p (Eh m)) k)
theorem aU.len0:∀ {bs:List (Str×aec)}{a},aU T α N bs a->bs.length=a.length
 |_,_,.nil=>rfl
 |_,_,.cons _ r=>congrArg (·+1) r.len0
theorem aU.find (h:aU T α N bs a):(∃ v val,bw x a=some v/\ah5 bs x=some val/\VR T α N val v)\/(bw x a=none/\ah5 bs x=none):=by
 have q:=h.look (x:=x);rw[sG];induction e:a.lookup x using aer with
 |some v=>rw[e]at q;refine Y q ?_;clear q;intro val c d;exact .inl ⟨v,val,rfl,c,d⟩
 |none=>rw[e]at q;exact .inr ⟨rfl,q⟩
theorem V6 (u:aP c d A) (w:jg W.kt) (R:SR c σ s α N) (z:aU W.kt α N j a):∀ {t:Bool},aU W.kt α N g i->yp σ.st a i=some t->KeqHits A.in1 s j g t:=by
 suffices B:aU W.kt α N g i->∀ {t:Bool},yp σ.st a i=some t->KeqHits A.in1 s j g t from fun{t}h=>B h
 intro C;induction C with
 |nil=>intro t e;have f:=aea e;clear e;subst t;exact .nil
 |@cons k v D E F l r G=>
  intro t e;have e:(aeT (some false) (λy=>aD none (lK σ.st 20 D y) λt=>aD none (yp σ.st a F) λb=>some (and t b)) (bw k a):Option Bool)=some t:=e
  rcases z.find (x:=k) with⟨y,val,h,H,m⟩|⟨h,q⟩
  ·rw[h]at e;refine Y (aR e aO) ?_;clear e;intro X n e;refine Y (aR e aO) ?_;clear e;intro b I e;obtain rfl:=aea e;refine aH (Am w 20 _ _ _ n) ?_;clear n;intro Z db o p L;refine bU (o.read R l) ?_;clear o l;intro f M P;obtain⟨as,Q⟩:=f;refine bU (p.read R m) ?_;clear p m;intro f S T;obtain⟨E,V⟩:=f;exact .hit H (L M S▸keq_at (A:=A) Q V P T (PZ u)) (G I)
  ·rw[h]at e;obtain rfl:=aea e;exact .miss q
theorem EM{st:Tr}:∀ {l:List Str},ph st .none (l.map .str)=some false
 |[]=>rfl
 |x::l=>EM (l:=l)
theorem Hb (g:ak c) (p:aP c d A) (R:SR c σ s α N) (i:VR W.kt α N B a) (j:VR W.kt α N r b) (e:uA σ.st a b=some t){E}:jx W A s E .In .NotIn B r t:=by
 have go:∀ v,vw σ.st b=v->(Vw.casesOn v (λu=>none) (rz σ.st a) (rz σ.st a) (λf u=>dN (aem f (nat_lit 2)) (j1 none a (some false))) (aD none (iF σ.st b) λw=>afD none a λC=>some (xf C w)):Option Bool)=some t->jx W A s E .In .NotIn B r t:=λv m e=>by
  induction v using Vw.casesOn with
  |sc=>exact aT e
  |tup n=>exact Ao g p R i j (.inl m) (Gu.symm.trans e)
  |lst n=>exact Ao g p R i j (.inr m) (Gu.symm.trans e)
  |tok f k=>
   refine ae (fR e) ?_;clear e;intro H e;refine ae (nK e aO) ?_;clear e;intro I;subst I;intro e;obtain rfl:=aea e;obtain rfl:=aed H;have L:b=.ty 2 k:=Gn m;subst L;refine aL (g.g.reg k) λn M=>?_
   exact Ao g p R i (show VR W.kt α N r (.hl (n.map .str)) from M▸j.inv) (l:=n.map .str) (.inr rfl) EM
  |bad=>
   refine Y (aR e aO) ?_;clear e;intro w y e;have y:dZ none σ.st b (λu o=>ix none o some)=some w:=y
   revert m;refine kG R j y aO λC P Q lo D S T u=>?_
   obtain rfl:=aea T;refine gE i e aO λk F X Z e=>?_
   obtain rfl:=aea e;have G:(ah5 Q k).isSome=xf k P:=by
    unfold xf;rcases S.find (x:=k) with⟨qa,val,h,V,q2⟩|⟨h,q⟩
    ·rw[h,V];rfl
    ·rw[h,q];rfl
   exact λqb=>⟨λz=>wpAny_in_of (agY W.prog W.w k F) lo D.mapOf (G▸z _),λz=>wpAny_notIn_of (agY W.prog W.w k F) lo D.mapOf (G▸z _)⟩
 exact go _ rfl e
theorem Um (g:ak c) (h:aP c d A) (R:SR c σ s α N) (i:VR W.kt α N r a) (j:VR W.kt α N u b) (e:lK σ.st 20 a b=some t):jx W A s E .Eq .NotEq r u t:=by
 refine aH (Am g.g.tok 20 _ _ _ e) ?_;clear g e;intro y z l m v;refine bU (l.read R i) ?_;clear l i;intro f w n;obtain⟨B,o⟩:=f;refine bU (m.read R j) ?_;clear R m j;intro f x p;obtain⟨C,q⟩:=f;obtain rfl:=v w x;exact .of (λk=>eq_dataH o q n p (zF h) k) (λk=>ne_dataH o q n p (zF h) k)
theorem Hc (p:ak c) (l:aP c d A) (R:SR c σ s α N) (u:VR W.kt α N F a) (v:VR W.kt α N G b) (e:uz σ.st a b=some t):jx W A s E .Eq .NotEq F G t:=by
 rw[V3]at e;unfold tL at e;induction m:iF σ.st a using aer with
 |none=>rw[m]at e;exact Um p l R u v e
 |some S=>
  rw[m]at e;refine Y (aR e aO) ?_;clear e;intro T H e;refine kG R u m aO λx I n lo f w L=>?_
  obtain rfl:=aea L;refine kG R v H aO λV M o g h y P=>?_
  obtain rfl:=aea P;have i:A.units<cLine:=af7 (aeR _ _) (zF l);have B:=w.len0;have C:=y.len0;induction j:aem I.length M.length using aee with
  |true=>
   rw[j]at e;have hk:=V6 l p.g.tok R y w e;have z:(n.length ==o.length&&t)=t:=by rw[B,C,aed j,beq_self_eq_true,Bool.true_and]
   exact .of (λk=>keq_eq lo g f h i (λQ=>hk) (z.symm▸k)) (λk=>keq_ne lo g f h i (λQ=>hk) (z.symm▸k))
  |false=>
   rw[j]at e;obtain rfl:=aea e;have D:¬ n.length=o.length:=λz=>aid j (B.symm.trans (z.trans C))
   have z:(n.length ==o.length&&false)=false:=Bool.and_false _;exact .of (λk=>keq_eq (r:=false) lo g f h i (λq=>absurd q D) (z.symm▸k)) (λk=>keq_ne (r:=false) lo g f h i (λq=>absurd q D) (z.symm▸k))
theorem Hd(g:ak c)(f:VR W.kt α N h a)(i:VR W.kt α N j b)(e:isQ a b=some t):jx W A s E .Is .IsNot h j t:=by
 induction i using VR.casesOn with
 |none=>exact V4 g f e
 |bool y=>
  refine zj f e aO λx d e=>?_
  obtain rfl:=aea e;exact .of is_bool isnot_bool
 |_=>exact aT e
theorem Ap (l:ak c) (m:aP c d A) (F:jg W.kt) (R:SR c σ s α N) (i:VR W.kt α N n a) (j:VR W.kt α N p b) (e:xi op σ.st a b=some t) {Q:aec->aeg->Prop}(h:∀ tk,Q (.bool t) {s with toks:=tk}):WP W A (ahw op n p) Q E s:=by
 have q:∀ {op}{f:Int->Int->Bool},xh f a b=some t->(∀ x y t r,WP W A (ahw op (.int x t) (.int y r)) (λv B=>v=.bool (f x y)/\B=s) E s)->WP W A (ahw op n p) Q E s:=λe k=> i3 i e aO λx r g e=>i3 j e aO λy C g e=>afE (k x y r C) (λg g z=>by rw[z.1,z.2,aea e];exact h s.toks) λg g z=>z
 have u:∀ {o:Option Bool}{op w},xg o=some t->(∀ {t},o=some t->jx W A s E op w n p t)->WP W A (ahw w n p) Q E s:=λe k=>by refine Y (aR e aO) ?_;clear e;intro b D e;obtain rfl:=aea e;exact (k D Q).2 h
 induction op using CmpOp.casesOn with
 |Is=>exact (Hd l i j e Q).1 h
 |IsNot=>exact u e λe=>Hd l i j e
 |Eq=>exact (Hc l m R i j e Q).1 h
 |NotEq=>exact u e λe=>Hc l m R i j e
 |In=>exact (Hb l m R i j e Q).1 h
 |NotIn=>exact u e λe=>Hb l m R i j e
 |Lt=>exact q e λx y g g=>PyProof.Rows.lt_int ⟨rfl,rfl⟩
 |Gt=>exact q e λx y g g=>PyProof.Rows.gt_int ⟨rfl,rfl⟩
 |GtE=>exact q e λx y g g=>PyProof.Rows.ge_int ⟨rfl,rfl⟩
 |_=>exact aT e
noncomputable def c0 (op:CmpOp) (a b:Ev):Ev:=λc k=>a c λd c=>b c λA c=>aD .no (xi op c.st d A) λt=>k (.bool t) c
noncomputable def au (op:CmpOp) (a b:Ev):Tc:=λc k=>a c λd c=>b c λA c=>aD .no (xi op c.st d A) λt=>k t c
theorem Fz (l:ak c) (m:aP c d A) (n:jg W.kt) (o:afy op b=false) (p:aE c A a q) (r:aE c A b u):aE c A (.Compare a [op] [b] pos) (c0 op q u):=by
 intro v k y h e s w N E R f Q x;refine wpAny_Compare1 ?_ o;refine p v _ y h e s w N E R f _ λF G H I L M h z g B=>?_
 refine r _ _ _ h e _ _ _ _ z (f.step g.kp) _ λP S T V X Z h i j C=>?_
 refine Y (aR h e) ?_;clear h e;intro t D h;exact Ap l m n i (B.mono j.ge) C D λtk=>x _ _ _ _ _ _ h i.toks (g.trans j) (.bool _)
theorem zS (l:ak c) (m:aP c d A) (n:jg W.kt) (o:afy op b=false) (p:aE c A a q) (r:aE c A b u):dz c A (.Compare a [op] [b] pos) (au op q u):=by
 intro v k y h e s w N E R f Q x;refine ahq ?_ o;refine p v _ y h e s w N E R f _ λF G H I L M h z g B=>?_
 refine r _ _ _ h e _ _ _ _ z (f.step g.kp) _ λP S T V X Z h i j C=>?_
 refine Y (aR h e) ?_;clear h e;intro t D h;exact Ap l m n i (B.mono j.ge) C D λtk=>afN (x _ _ _ _ _ h i.toks (g.trans j))
theorem R0 (a:ak c) (g:VR W.kt α N val (.ty f k)) (e:aem f 7=true):∃ b,val=.bool b:=by
 obtain rfl:=aed e;refine aL (a.g.tb k) ?_;clear a;intro b e;exact⟨b,(e▸g.inv:VR W.kt α N val (.bool b)).inv⟩
noncomputable def bV (v:O) (kt kf:Rs):Rs:=i8 (iK .no v λf c=>aN .no (aem f (nat_lit 7)) (join kt kf)) v λq=>aen kf kt q
theorem AJ (i:ak c) (j:VR W.kt α N val v) (a:y≠.no) (h:bV v kt kf=y):∃ q,val=.bool q/\(aen kf kt q:Rs)=y:=by
 by_cases g:y=iK .no v λf m=>aN .no (aem f 7) (join kt kf)
 ·refine be (jW g.symm a) ?_;intro f k A d;subst A;refine ae (aS d a) ?_;clear d;intro e d;refine ae (mc d a) ?_;clear d a;intro d l;refine aL (R0 i j e) ?_;clear i e;intro b A;subst A;exact (ay b rfl (by induction b using aee;exact l;exact d))
 ·refine Y (pR h g) ?_;clear h g a;intro q A d;subst A;exact (ay q j.inv d)
noncomputable def Bo (v:O) (σ:LS) (k:Bool->LS->Rs):Rs:=j1 (bV v (k true σ) (k false σ)) v (k false σ)
theorem FA (g:ak c) (h:Bo v σ k=y) (a:y≠.no) (R:SR c σ s α N) (i:VR W.kt α N val v){Q:Bool->aeg->Prop}(j:ry c y σ α N k Q):WP W A (truthy val) Q E s:=by
 by_cases d:y=bV v (k true σ) (k false σ)
 ·refine Y (AJ g i a d.symm) ?_;clear g a;intro q b f;subst b;exact afN (j _ _ _ _ _ (by induction q using aee<;>exact f) R .refl)
 ·refine ae (nK h d) ?_;clear h d a;intro b f;subst b;have e:val=.none:=i.inv;subst e;exact truthy_none (j _ _ _ _ _ f R .refl)
noncomputable def zT(e:aeD):Bool:=match e with
 |.Name ..|.Call ..|.Subscript ..|.Attribute ..|.Constant ..=>true
 |_=>false
noncomputable def cF(a:Ev):Tc:=λc k=>a c λv c=>Bo v c k
theorem Gv (b:ak c) (f:zT e=true) (g:aE c A e i):dz c A e (cF i):=by
 intro j k y h d s l N E R m Q n;have q:WP W A (eval e c.env) (λv a=>WP W A (truthy v) Q E a) E s:=g j _ y h d s l N E R m _ λv t val a u w h o p r=>FA b h d o r (n.step p)
 induction e using afB<;>first|exact absurd f aeP|exact isTrue_plain q
noncomputable def eZ (a:Tc):Tc:=λc k=>a c λb c=>k (not b) c
theorem FC (a:dz c A x e):dz c A (.UnaryOp .Not x pos) (eZ e):=by
 intro d k y h W s f N E R g Q i;exact isTrue_not (a d _ y h W s f N E R g _ λb m n o p h j l=>i _ _ _ _ _ h j l)
noncomputable def bo:Tc:=λc k=>k true c
noncomputable def dP:Tc:=λc k=>k false c
noncomputable def c6 (a b:Tc):Tc:=λc k=>a c λq c=>aen (k false c) (b c k) q
noncomputable def bI (a b:Tc):Tc:=λc k=>a c λq c=>aen (b c k) (k true c) q
theorem R1:dz c A (.BoolOp .And [] pos) bo:=λW k y h a s b N E R e Q d=>isTrue_and_nil (d _ _ _ _ _ h R .refl)
theorem QI:dz c A (.BoolOp .Or [] pos) dP:=λW k y h a s b N E R e Q d=>isTrue_or_nil (d _ _ _ _ _ h R .refl)
theorem Un (f:dz c A x g) (i:dz c A (.BoolOp .And rest pos) j):dz c A (.BoolOp .And (x::rest) pos) (c6 g j):=by
 intro l k y h W s m N E R a Q b;refine isTrue_and (f l _ y h W s m N E R a _ λq n o p r h e d=>?_)
 induction q using aee
 ·exact b _ _ _ _ _ h e d
 ·rw[if_pos rfl];exact i _ _ _ h W _ _ _ _ e (a.step d.kp) _ (b.step d)
theorem V7 (f:dz c A x g) (i:dz c A (.BoolOp .Or rest pos) j):dz c A (.BoolOp .Or (x::rest) pos) (bI g j):=by
 intro l k y h W s m N E R a Q b;refine isTrue_or (f l _ y h W s m N E R a _ λq n o p r h e d=>?_)
 induction q using aee
 ·rw[if_neg (by decide)];exact i _ _ _ h W _ _ _ _ e (a.step d.kp) _ (b.step d)
 ·exact b _ _ _ _ _ h e d
noncomputable def Bp (a:Ev):Ev:=λc k=>a c λv c=>Bo v c λb c=>k (.bool (not b)) c
theorem Uo (a:ak c) (e:aE c A x f):aE c A (.UnaryOp .Not x pos) (Bp f):=by
 intro W k y h d s g N E R i Q j;refine UnaryOp_ ?_;refine e W _ y h d s g N E R i _ λv q val r t u h l m n=>?_
 exact not_of (FA a h d l n λb w z B C h o p=>j _ _ _ _ _ _ h o (m.trans p) (.bool _))
noncomputable def oM (a b:Ev):Ev:=λc k=>a c λv c=>bV v (b c k) (k (.bool false) c)
noncomputable def lL (a b:Ev):Ev:=λc k=>a c λv c=>bV v (k (.bool true) c) (b c k)
theorem Up (a:ak c) (l:aE c A x m) (n:aE c A (.BoolOp .And (z::rest) pos) b):aE c A (.BoolOp .And (x::z::rest) pos) (oM m b):=by
 intro o k y h d s p N E R e Q f;refine BoolOp_and ?_;refine l o _ y h d s p N E R e _ λv g val t u w h i W j=>?_
 refine Y (AJ a j d (kt:=b g k) (kf:=k (.bool false) g) h) ?_;clear a j h;intro q r h;subst r;refine afN ?_;induction q using aee
 ·exact f _ _ _ _ _ _ h i W (.bool _)
 ·rw[if_pos rfl];exact n _ _ _ h d _ _ _ _ i (e.step W.kp) _ (f.step W)
theorem V8 (a:ak c) (l:aE c A x m) (n:aE c A (.BoolOp .Or (z::rest) pos) b):aE c A (.BoolOp .Or (x::z::rest) pos) (lL m b):=by
 intro o k y h d s p N E R e Q f;refine BoolOp_or ?_;refine l o _ y h d s p N E R e _ λv g val t u w h i W j=>?_
 refine Y (AJ a j d (kt:=k (.bool true) g) (kf:=b g k) h) ?_;clear a j h;intro q r h;subst r;refine afN ?_;induction q using aee
 ·rw[if_neg (by decide)];exact n _ _ _ h d _ _ _ _ i (e.step W.kp) _ (f.step W)
 ·exact f _ _ _ _ _ _ h i W (.bool _)
theorem R2 (a:aE c A x b):aE c A (.BoolOp op [x] pos) b:=
 λd k y h W s e N E R f Q g=>BoolOp_one (a d k y h W s e N E R f Q g)
noncomputable def aI:eb:=λc k=>k [] c
noncomputable def bg (a:Ev) (r:eb):eb:=λc k=>a c λv c=>r c λl c=>k (v::l) c
theorem i6(h:VR T α N v a):a.sure=true:=by induction a using O.casesOn<;>first|rfl|exact h.inv.elim
theorem vJ (h:VR T α N v a)(b:aeS l=true):aeS (a::l)=true:=ad9.mpr ⟨i6 h,b⟩
theorem fz (h:aey e=false):agE (e::a) env=(false,eval e env)::agE a env:=by
 induction e using afB<;>first|rfl|exact gr h
theorem nL:gL c A [] aI:=λW k y h a s b N E R e f Q d=>ag6 (d _ _ _ _ _ _ h R .refl .nil rfl)
theorem jQ (i:aey e=false) (j:aE c A e m) (n:gL c A o p):gL c A (e::o) (bg m p):=by
 intro q k y h d s r N E R W t Q u;refine agh (j q _ y h d s r N E R W _ λa B C D F G h v b f=>?_) (fz i)
 refine n _ _ _ h d _ _ _ _ v (W.step b.kp) t _ λl H I L M P h w g x z=>?_
 exact u _ _ _ _ _ _ h w (b.trans g) (.cons (f.mono g.ge) x) (vJ f z)
theorem R3 (e:ak c) (R:SR c σ s α N) (h:ah W.kt α N vs f) (l:f.length<=1000){Q:aec->aeg->Prop}{E:aec->aeg->Prop} (k:∀ v i b a,SR c σ i b a->bh σ α N σ b a->VR W.kt b a v (.tup f)->Q v i):WP W A (newTuple vs) Q E s:=by
 refine Y R.fr λm F d=>?_
 have n:vs.length<=sizeLine:=aev h.le (aev l (by decide))
 refine newTuple_N F R.news (λp j a=>?_) n
 refine ae (R.hidden e (t:=s.toks) d j a) ?_;clear e d j a;intro o g;exact k _ _ _ _ o g (.tup (.head _) R.away ⟨rfl,rfl⟩ rfl (h.mono g.ge))
theorem QJ (f:ak c) (R:SR c σ s α N) (i:σ.room=true) (h:ah W.kt α N vs b) (n:b.length<=1000){Q:aec->aeg->Prop}{E:aec->aeg->Prop} (k:∀ v j e a,SR c (σ.push (.list b)) j e a->bh σ α N (σ.push (.list b)) e a->VR W.kt e a v (.ref σ.n)->Q v j):WP W A (newList vs) Q E s:=by
 refine Y R.fr λm F d=>?_
 have o:vs.length<=sizeLine:=aev h.le (aev n (by decide))
 refine newList_N F R.news (λq l a=>?_) o
 refine ae (R.add f i (t:=s.toks) (ao:=.list b) d l a λst=>.list (h.mono st.ge)) ?_;clear f i d l a h;intro p g
 exact k _ _ _ _ p g (.ref (kD R.len))
theorem Uq (e:ak c) (R:SR c σ s α N) (h:ah W.kt α N vs f) (l:f.length<=1000){Q:aec->aeg->Prop}{E:aec->aeg->Prop} (k:∀ v i b a,SR c σ i b a->bh σ α N σ b a->VR W.kt b a v (.hl f)->Q v i):WP W A (newList vs) Q E s:=by
 refine Y R.fr λm F d=>?_
 have n:vs.length<=sizeLine:=aev h.le (aev l (by decide))
 refine newList_N F R.news (λp j a=>?_) n
 refine ae (R.hidden e (t:=s.toks) d j a) ?_;clear e d j a;intro o g;exact k _ _ _ _ o g (.hl (.head _) R.away (h.mono g.ge))
noncomputable def short (l:List O):Bool:=we l (nat_lit 1000)
noncomputable def ai (a:eb):Ev:=λc k=>a c λl c=>aN .no (short l) (k (.tup l) c)
theorem Ur (a:ak c) (b:gL c A f g):aE c A (.Tuple f u pos) (ai g):=by
 intro W k y h d s i N E R j Q m;refine Tuple_ (b W _ y h d s i N E R j _ _ λl w x z B C h n o p D=>?_)
 refine ae (aS h d) ?_;clear h d;intro e h;exact R3 a n p (i4 e) λv F G H q r t=>m _ _ _ _ _ _ h q (o.trans r) t
noncomputable def eg (a:eb):Ev:=λc k=>a c λl c=>aN .no (and (short l) c.room) (k (.ref c.n) (c.push (.list l)))
theorem EN (a:ak c) (b:gL c A f g):aE c A (.List f pos) (eg g):=by
 intro W k y h d s i N E R j Q m;refine List_ (b W _ y h d s i N E R j _ _ λl x z B C D h n o p F=>?_)
 refine ae (aS h d) ?_;clear h d;intro e h;refine ae (ad9.mp e) ?_;clear e;intro q r;exact QJ a n r p (i4 q) λv G H I t u w=>m _ _ _ _ _ _ h t (o.trans u) w
noncomputable def aY (a:eb):Ev:=λc k=>a c λl c=>aN .no (short l) (k (.hl l) c)
theorem V9 (a:ak c) (b:gL c A f g):aE c A (.List f pos) (aY g):=by
 intro W k y h d s i N E R j Q m;refine List_ (b W _ y h d s i N E R j _ _ λl u w x z B h n o p C=>?_)
 refine ae (aS h d) ?_;clear h d;intro e h;exact Uq a n p (i4 e) λv D F G q r t=>m _ _ _ _ _ _ h q (o.trans r) t
noncomputable def aF:Sc:=λc kn d=>kn c
noncomputable def eP (a b:Sc):Sc:=λc kn d=>a c (λc=>b c kn d) d
theorem qn:cy c A [] aF:=λW kn a y h b s e N E R f Q d g=>ahh (d _ _ _ _ h R .refl)
theorem jY{st:afu}{b e}(j:bQ c A st b) (k:cy c A l e):cy c A (st::l) (eP b e):=by
 intro m kn w y h f s n N E R g Q o i;refine ago (j m _ _ y h f s n N E R g _ (λp q r t h W d=>?_) λa p v q r t h W d u=>?_)
 ·exact k _ _ _ _ h f _ _ _ _ W (g.step d.kp) _ (o.step d) (i.step d)
 ·exact i _ _ _ _ _ _ h W d u
noncomputable def aG(e:Ev):Sc:=λc A d=>e c d
theorem vK (b:aE c A e f):bQ c A (.Return (some e) pos) (aG f):=by
 intro d kn n y h W s g N E R i Q o j;exact wpAny_Return_some (b d _ y h W s g N E R i _ λa p v q r t h k l m=>j _ _ _ _ _ _ h k l.toSts m)
noncomputable def wh:Sc:=λc A d=>d .none c
theorem R4:bQ c A (.Return none pos) wh:=by
 intro W kn a y h b s e N E R f Q g d;exact wpAny_Return_none (d _ _ _ _ _ _ h R .refl .none)
noncomputable def aB (t:Tc) (a b:Sc):Sc:=λc kn d=>t c λq c=>aen (b c kn d) (a c kn d) q
theorem sH (j:dz c A t k) (l:cy c A a m) (n:cy c A b o):bQ c A (.If t a b pos) (aB k m o):=by
 intro p kn u y h W s r N E R e Q f g;refine wpAny_If (j p _ y h W s r N E R e _ λq v w x z h i d=>?_)
 induction q using aee
 ·rw[if_neg (by decide)];exact n _ _ _ _ h W _ _ _ _ i (e.step d.kp) _ (f.step d.toSts) (g.step d.toSts)
 ·rw[if_pos rfl];exact l _ _ _ _ h W _ _ _ _ i (e.step d.kp) _ (f.step d.toSts) (g.step d.toSts)
theorem R5:bQ c A (.Pass pos) aF:=λW kn a y h b s e N E R f Q d g=>wpAny_Pass (d _ _ _ _ h R .refl)
noncomputable def eH:aeD->Bool
 |.Call (.Name id a) [] [] b=>id !=("super" :Str)
 |_=>true
theorem DK(h:eH o=true)(b:Str)(env:Env)(a:Sem aec):attributeBase o b env a=a:=by
 induction o using afB with
 |Call f c d A=>induction f using afB with
  |Name id p=>induction c using aet with
   |nil=>induction d using aet with
    |nil=> have e:(id !=("super" :Str))=true:=h;show(if _ then _ else _)=_;rw[if_pos];rw[e];rfl
    |cons=>rfl
   |cons=>rfl
  |_=>rfl
 |_=>rfl
theorem FD (h:eH o=true){Q:aec->aeg->Prop}{E:aec->aeg->Prop}
  (k:WP W A (eval o env) (λv b=>WP W A (getAttr v a true) Q E b) E s):WP W A (eval (.Attribute o a pos) env) Q E s:=by
 refine Attribute_any_ k ?_
 show (do
  let c←attributeBase o a env (eval o env)
  standAt pos.atName
  let r←holding [c] (getAttr c a true)
  letTemporaryGo o c r
  pure r)=_
 rw [DK h]
noncomputable def cL (n:Nat) (l:List Nat):Bool:=aeC false (λa d c=>aen c true (aem n a)) l
theorem nP:∀ {l:List Nat},cL n l=true->n∈l
 |[],h=>absurd h aeP
 |a::l,h=>by
  have h':aen (motive:=λb=>Bool) (cL n l) true (aem n a)=true:=h
  induction q:aem n a using aee with
  |true=>rw[aed q];exact .head _
  |false=>rw[q]at h';exact .tail _ (nP h')
theorem iy:∀ {l:List Nat},cL n l=false->n∉l
 |[],f,h=>nomatch h
 |a::l,h,b=>by
  have h':aen (motive:=λg=>Bool) (cL n l) true (aem n a)=false:=h
  induction q:aem n a using aee with
  |true=>rw[q]at h';exact gr h'
  |false=>
   rw[q]at h';rcases aeq.mp b with e|b
   ·rw[e,afz]at q;exact gr q
   ·exact iy h' b
@[elab_as_elim]theorem vt (R:SR c σ s α N){p:Type}{z y₀:p}{f:Nat->aep->List (Str×O)->p}{M:aec->Prop}(q:VR W.kt α N v a) (h:dZ z σ.st a (λi o=>mi z o (f i))=y₀) (m:y₀≠z) (k:∀ i C e x j g l n,a=.ref i->σ.st.get i=some (.obj C e)->i=j+1->(x,ahp C g)∈N->α[j]?=some g->(g,afP l n)∈N->bM W.w.params W.kt α N l e->f i C e=y₀->M (.ref x)):M v:=
 l9 R q h m λi x b o r t u w A h=>by refine be (Ee h m) ?_;clear h m;intro C e d h;subst d;refine ir A.inv ?_;clear A t;intro j g l n d y B D E;subst d;exact k i C e x j g l n r w y u B D E h
theorem Ei (b:ak c) (R:SR c σ s α N) (h:VR W.kt α N v a):ahS v=true:=by
 induction h using VR.casesOn with
 |ty q=>
  rename_i f k;refine aL (b.g.tok f k σ.st) ?_;clear b;intro d A;refine bU (A.reads R q) ?_;clear R A q;intro e g g;obtain⟨i,r⟩:=e
  cases r<;>rfl
 |bR h=>exact h
 |_=>rfl
theorem bM.find (h:bM P T α N b aes):(∃ a v,bw x aes=some a/\ags x b=some (some v)/\VR T α N v a)\/(bw x aes=none/\ags x b=some none):=by
 have q:=h.getL (x:=x);rw[sG];induction e:aes.lookup x using aer with
 |some a=>rw[e]at q;refine Y q ?_;clear q;intro v c d;exact .inl ⟨a,v,rfl,c,d⟩
 |none=>rw[e]at q;exact .inr ⟨rfl,q⟩
theorem bM.at (h:bM P T α N b aes)(e:bw x aes=some a):∃ v,ags x b=some (some v)/\VR T α N v a:=by
 rcases h.find (x:=x)with⟨d,v,c,q⟩|⟨c,_⟩
 ·have A:=aea (e.symm.trans c);subst d;exact⟨v,q⟩
 ·cases e.symm.trans c
theorem bM.no (h:bM P T α N a aes)(e:bw x aes=none):ags x a=some none:=by
 rcases h.find (x:=x)with⟨d,v,c,q⟩|⟨_,q⟩
 ·cases e.symm.trans c
 ·exact q
noncomputable def aw (cls:List Nat) (name:Str) (o:Ev):Ev:=λc k=>o c λv c=>dZ .no c.st v λA o=>mi .no o λC d=>aN .no (cL C cls) (aD .no (bw name d) λv=>k v c)
theorem R6 (b:ak c) (m:eH o=true) (e:(cls.all λC=>W.G.attr C name)=true) (n:aE c A o p):aE c A (.Attribute o name pos) (aw cls name p):=by
 intro q k y h d s r N E R t Q u;refine FD m (n q _ y h d s r N E R t _ λv S val T V X h a w x=>?_)
 refine vt a x h d λi C Z qa qb da Cv qc z hg hj B hda D f h=>?_
 refine ae (aS h d) ?_;clear h;intro g h;refine Y (aR h d) ?_;clear h d;intro v j h;refine Y (f.at j) ?_;clear f j;intro val G l;refine Y a.fr λqd F ez=>?_
 refine j4 (b.g.attr _ _ (aeB.mp e _ (nP g))) ?_;clear e g;intro H I L z;obtain⟨attr,M,P⟩:=L;exact get_own F b.aZ (aiO a.news (aef _ B) (aef _ D)) H I M P G (Ei b a l) (u _ _ _ _ _ _ h a.toks w l)
theorem y6:∀ {a:List aeD},a.any aey=false->(agE a env).any (·.1)=false
 |[],b=>rfl
 |e::a,h=>by rw[afr,Bool.or_eq_false_iff]at h;rw[fz h.1,afr,y6 h.2];rfl
theorem y8:∀ {l:List (Bool×Sem aec)},(ahT pos l).any (·.1)=l.any (·.1)
 |[]=>rfl
 |[(a,e)]=>rfl
 |(b,m)::y::rest=>by have:=y8 (pos:=pos) (l:=y::rest);show (b ||(ahT pos (y::rest)).any (·.1))=(b ||(y::rest).any (·.1));rw[this]
theorem eL{Q:aec->aeg->Prop}{P:afd->Prop}
  (f:a.any aey=false) (i:∀ b,P b->∃ k,(k=Keeper.frame\/k=Keeper.machine\/k=Keeper.boundFrame)/\Looks (aeI W.prog W.w) b (keeperOf g) k)
  (q:WP W A (spliced (ahT pos (agE a c.env))) (λvs h=>P h.heap/\WP W A (call g (j++vs)) Q E h) E s):WP W A (callWith pos g j (ahT pos (agE a c.env)) []) Q E s:=by
 have b:((ahT pos (agE a c.env)).any (·.1) ||([]:List (Option Str×Sem aec)).any (·.1.isNone))=false:=by rw [y8,y6 f];rfl
 refine callWith_of (P:=P) b i ?_
 induction a using aet with
 |nil=>
  unfold evalArgs
  show aeF _ _ (spliced [] >>=_) _ _ _
  refine aeb (afE q (λvs n d=>afO ?_) λm m x=>x)
  exact aeb (aeo (aeb (aeo (aeo d))))
 |cons e a=>
  rw [afr,Bool.or_eq_false_iff]at f
  rw [fz f.1]at q ⊢
  generalize agE a c.env=l at q ⊢
  induction l using aet with
  |nil=>exact evalArgs_plain q
  |cons=>exact evalArgs_plain q
noncomputable def az (call:Call) (a:aep) (args:eb):Ev:=λc k=>args c λl c=>call (.glob a) l c k
theorem zU (a:ak c){x:Str}{n:Nat}(f:c.scope.names[n]?=some (x,.globalImplicit)) (b:cH x=true) (e:W.G.name x=some v){s:aeg}{α N}(R:SR c σ s α N) {Q:aec->aeg->Prop}{E:aec->aeg->Prop}(h:∀ val,VR W.kt α N val v->Q val s):WP W A (eval (.Name x pos) c.env) Q E s:=by
 have b:=(aeK _).mp (ad9.mp b).1;refine Y R.fr ?_;clear R;intro m F j;have d:=eW a.cV f;refine gH a.top λp k l o T=>?_
 refine Y (a.g.name x v e α N) ?_;clear e;intro val g i;exact ahz a.kind d (loadGlobal_global (env:=c.env) (by rw[a.iE];exact T.g.keeps F.keep) (mg_of a.aZ T.g g) (h _ i)) b
theorem zk (e:ak c){call:Call}(m:ja c A call){x:Str}{p:Pos}{n:Nat}{a:aep}{args:List aeD}{f}{pos:Pos}(o:args.any aey=false) (q:c.scope.names[n]?=some (x,.globalImplicit)) (b:cH x=true) (r:W.G.name x=some (.glob a)) (hk:(W.G.fn a).isSome=true\/(W.G.init a).isSome=true) (t:gL c A args f):aE c A (.Call (.Name x p) args [] pos) (az call a f):=by
 intro u k y h d s v N E R g Q w;refine Call_ (zU e q b r R λD z=>?_)
 cases z
 refine eL (P:=λb=>W.K.In b) o (λb X=>keeps_K (e.g.keep a hk) b X) ?_
 exact t u _ y h d s v N E R g pos _ λl F G H I L h i j B C=>⟨i.aZ,m _ _ _ _ _ h d _ _ _ _ i (g.step j.kp).l _ _ (.glob a) B C _ (w.step j)⟩
noncomputable def a9 (call:Call) (a:List (Nat×aep)) (name:Str) (o:Ev) (args:eb):Ev:=λc k=>o c λv c=>dZ .no c.st v λi o=>mi .no o λC d=>Bi .no (bw name d) (aD .no (lk C a) λf=>args c λl c=>call (.glob f) (.ref i::l) c k)
theorem iA{α:Type}{v:α}:∀ {l:List (Nat×α)},lk n l=some v->(n,v)∈l
 |[],h=>by exact aT h
 |e::l,h=>by
  rw[eC]at h;split at h
  ·rename_i q;have a:=aea h;clear h;subst v;rw[q];exact .head _
  ·exact .tail _ (iA h)
theorem vL{Q:aec->aeg->Prop}{E:aec->aeg->Prop}
  (i:eH o=true) (j:args.any aey=false) (k:args.length<30) (l:(b.endLine ==pos.line)=true)
  (h:WP W A (eval o c.env) (λa e=>∀ m,WP W A (getMethod a name m) (λr f=>WP W A (callWith pos r.1 r.2 (ahT pos (agE args c.env)) []) Q E f) E e) E s):
  WP W A (eval (.Call (.Attribute o name b) args [] pos) c.env) Q E s:=by
 show WP W A (do
  let a←attributeBase o name c.env (eval o c.env)
  standAt b.atName
  methodCall o name b pos c.env a args.length (ahT pos (agE args c.env)) (backToKw pos (keywordEach [] c.env))) Q E s
 rw [DK i]
 refine aeb (afE h (λa e h=>?_) λd d x=>x)
 refine aeb (ahF ?_)
 unfold methodCall
 have g:methodCallForm args.length (ahT pos (agE args c.env)) (backToKw pos (keywordEach [] c.env))=true:=by
  have q:(ahT pos (agE args c.env)).any (·.1)=false:=by rw [y8,y6 j]
  have n:(ahT pos (agE args c.env)).all (!·.1)=true:=by
   simpa [List.any_eq_false,aeB] using q
  unfold methodCallForm
  rw [n]
  exact decide_eq_true k
 rw [g]
 have p:methodCallForm (args.length+([]:List Keyword).length) (ahT pos (agE args c.env)) (backToKw pos (keywordEach [] c.env))=true:=g
 refine aeb (afO (afE (h _) (λr f h=>?_) λd d x=>x))
 unfold methodCallPos
 rw [if_pos (by rw [l];rfl)]
 exact aeb (aeo h)
theorem EO (e:ak c){call:Call}(w:ja c A call){m n}(x:eH o=true) (q:args.any aey=false) (g:args.length<30) (a:(z.endLine ==pos.line)=true) (r:(B.all λp=>W.G.ck p.1 name ==some p.2)=true) (C:aE c A o m) (D:gL c A args n):aE c A (.Call (.Attribute o name z) args [] pos) (a9 call B name m n):=by
 intro G qb y h d s H N E R i qc I;refine vL x q g a (C G _ y h d s H N E R i _ λqd dj val dk cK bZ h b j t=>?_)
 intro pl;have k:=t;revert k;refine vt b t h d λqe qf es qg qh da Cv qi L hg hj M hda Q S h k=>?_
 refine ae (Fp h d) ?_;clear h;intro g h;refine Y (aR h d) ?_;clear h;intro f u h;refine j4 (e.g.ck _ _ _ (beq_iff_eq.mp (aeB.mp r _ (iA u)))) ?_;clear r u;intro T V X Z;refine Y b.fr λqj F ez=>?_
 refine method_inst F e.aZ (aiO b.news (aef _ M) (aef _ Q)) T V X (S.no g) ?_;refine eL (P:=λa=>W.K.In a) q (λa qa=>keeps_K (e.g.keep f (.inl Z)) a qa) ?_
 exact D _ _ y h d _ _ _ _ b (i.step j.kp) pos _ λqk σ₂ vs d0 eh dJ h v l ie Cw=>⟨v.aZ,w _ _ _ _ _ h d _ _ _ _ v (i.step (j.trans l).kp).l _ _ (.glob f) (.cons (L▸k.mono l.ge) ie) Cw _ (I.step (j.trans l))⟩
theorem SR.ext (R:SR c σ s α N)(f:ak c)(k:∀ b o,s.heap.get? b=some o->h'.get? b=some o):SR c σ {s with heap:=h',toks:=t} α N:=by
 refine Y R.fr λm F A=>?_
 exact ⟨(ay m ⟨F.ns.keeps k,λb o e=>k _ _ (F.keep b o e),F.above⟩ A),R.aK,λp d=>⟨k _ _ (R.news p d).1,(R.news p d).2⟩,R.nodup,R.inj,R.obj,R.all,R.hi,R.wf,R.bD,R.len,R.low,R.bt,R.gens,R.os,λa o e=>k _ _ (R.aZ a o e)⟩
theorem zg (x:aiW h.objs.size h h'):∀ b o,h.get? b=some o->h'.get? b=some o:=λb o e=>x b o (aeE (aeJ e)) e
theorem He (h:(not (or a b))=true):a=false/\b=false:=by induction a using aee<;>induction b using aee<;>first|exact⟨rfl,rfl⟩|exact aX h
noncomputable def eJ(e:aeD):Bool:=match e with
 |.ListComp ..|.SetComp ..|.DictComp ..|.GeneratorExp ..=>true
 |_=>false
theorem jU(h:eJ e=false)(t:Option aeD)(n:Nat)(env:Env):ain e t n env=pure false:=by
 induction e using afB<;>first|rfl|exact gr h
noncomputable abbrev Tg:=O->LS->(LS->Rs)->Rs
noncomputable def ko (c:Cx W) (y:Rs) (σ:LS) (α:List aep) (N:Led) (kn:LS->Rs) (Q:Unit->aeg->Prop):Prop:=
 ∀ d A a b,kn d=y->SR c d A a b->Sts σ α N d a b->Q () A
theorem ko.step (h:ko c y σ α N k Q)(g:Sts σ α N a b f):ko c y a b f k Q:=
 λd A W i e R j=>h d A W i e R (g.trans j)
noncomputable def kb (c:Cx W) (A:aeX) (t:aeD) (b:Tg):Prop:=∀ v d k y,b v d k=y->y≠.no->∀ s a N E val,SR c d s a N->bS c y d a N E->VR W.kt a N val v->∀ Q,ko c y d a N k Q->WP W A (aie t c.env val) Q E s
noncomputable def aq (n:Nat):Tg:=λv d k=>k (LS.rec (motive:=λA=>LS) (λl c t i lo m=>⟨(n,v)::l,c,t,i,lo,m⟩) d)
noncomputable def fc (n:Nat):Tg:=λv c k=>aD .no (lk n c.aK) λi=>aD .no (c.st.get i) λo=>p8 .no o λd=>rx .no (cL i c.mark) (k (c.put i (.cell (some v))))
noncomputable def qZ (c:Cx W) (A:aeX) (x:Str) (b:Tg):Prop:=∀ v d k y,b v d k=y->y≠.no->∀ s a N E val,SR c d s a N->bS c y d a N E->VR W.kt a N val v->∀ Q,ko c y d a N k Q->WP W A (storeName c.env x val) Q E s
theorem zV (a:ak c) (b:c.comp=none) (e:c.scope.names[n]?=some (x,.local)):qZ c A x (aq n):=by
 intro v p k y h q s r N E val R u i Q l;refine Y R.fr λm F j=>?_
 have d:=a.locs;rw[b]at d;dsimp only at d;refine ahr (eW a.cV e) (by rw[d];exact F.ns) (λw f W=>?_) (by rw[show c.env.scope.kind=.function from a.kind];rfl)
 rw[d]at f W;refine ae (R.VZ a b e i (t:=s.toks+1) j (F.set f W) (R.news.set W)) ?_;clear R a b e i j F f W;intro o g;exact l _ _ _ _ h o g
theorem FE (a:ak c) (b:c.comp=none) (e:c.scope.names[n]?=some (x,.local)):kb c A (.Name x pos) (aq n):=
 λv d k y h W s f N E val R g i Q j=>ajn (zV a b e v d k y h W s f N E val R g i Q j)
theorem FF (f:ak c) (a:c.scope.names[n]?=some (x,.cell)):qZ c A x (fc n):=by
 intro v l qa qb h d qc p qd qe val R hE q qf r;refine Y R.fr λqg F s=>?_
 refine Y (aR h d) λi t h=>?_
 refine Y (aR h d) λqh w h=>?_
 refine Y (vl h d) ?_;clear h;intro ov W h;subst W;refine ae (sE h d) λy h=>?_
 refine cg (R.aK n i t) λx' k' qi B D j=>?_
 cases aea (a.symm.trans B)
 refine Y (R.of w j) λb k E=>?_
 refine aL E.RP λadY G=>?_
 have z:=R.news _ (aef _ k);refine wpAny_storeName_cell f.kind (eW f.cV a) D (ay b z.1 G) λh' H m=>?_
 refine Y H λI L M=>?_
 have N:∀ x,l.st.get (i+1)=some x->i+1<l.n->(∃ C o,x=.obj C o)->False:=λx a P e=>by
  refine eY e ?_;clear e;intro C o W;subst W;refine aH (R.obj _ _ P a) λa' b' q1 q2 Q=>?_
  refine ir Q.inv λqj da Cv n S T V X S=>?_
  obtain rfl:=afR T;obtain rfl:=aea (j.symm.trans V);obtain rfl:=R.uniq k X;contradiction
 refine cJ (R.mod f (ao':=.cell (some v)) (o':=I) j k (iy y) (λps e=>by subst e;contradiction) N) λZ u g K=>?_
 refine eI u.split λpre post e1 e2 n1 n2=>?_
 refine r _ _ p Z h (K s (F.change m z.2.1 z.2.2) ?_ (.cell M (q.mono g.ge))) g.toSts;rw[e2];exact news_set (e1▸R.news) n1 n2 m L
theorem Us (a:ak c) (b:c.scope.names[n]?=some (x,.cell)):kb c A (.Name x pos) (fc n):=
 λv d k y h W s e N E val R f g Q i=>ajn (FF a b v d k y h W s e N E val R f g Q i)
noncomputable abbrev iS:=List O->LS->(LS->Rs)->Rs
noncomputable def bL:iS:=λl c k=>aet l (k c) λd d=>.no
noncomputable def aV(t:Tg)(r:iS):iS:=λl c k=>aet l .no λv l=>t v c λc=>r l c k
noncomputable def mr (c:Cx W) (A:aeX) (e:List (aec->Sem Unit)) (g:iS):Prop:=∀ l d k y,g l d k=y->y≠.no->aeS l=true->∀ s a N E b,SR c d s a N->bS c y d a N E->ah W.kt a N b l->∀ Q,ko c y d a N k Q->WP W A (assignInOrder e b) Q E s
theorem FH:mr c A [] bL:=by
 intro l b k y h d e s f N E g R i W Q a;induction l using aet with
 |nil=>rw [W.nil_inv];exact aeo (a _ _ _ _ h R .refl)
 |cons=>exact bO h d
theorem gB (h:aeS (a::l)=true):a.sure=true/\aeS l=true:=ad9.mp h
noncomputable def Hf (c:Cx W) (A:aeX) (t:aec->Sem Unit) (b:Tg):Prop:=∀ v d k y,b v d k=y->y≠.no->∀ s a N E val,SR c d s a N->bS c y d a N E->VR W.kt a N val v->∀ Q,ko c y d a N k Q->WP W A (t val) Q E s
theorem EP{t:aec->Sem Unit}{a:List (aec->Sem Unit)}(i:Hf c A t j) (m:mr c A a g):mr c A (t::a) (aV j g):=by
 intro l w k y h d b s x N E z R e f Q n;induction l using aet with
 |nil=>exact bO h d
 |cons v l=>
  refine aH (f.cj (gB b).1) ?_;clear f;intro u B o p q;subst o;refine aeb (afO (i _ _ _ y h d _ _ _ E _ R e p _ λC D F G h r W=>?_))
  exact m _ _ _ y h d (gB b).2 _ _ _ _ _ r (e.step W.kp) (q.mono W.ge) _ (n.step W)
noncomputable def cz (n:Nat) (g:iS):Tg:=λv c k=>cD .no v λl=>aN .no (and (aem l.length n) (aeS l)) (g l c k)
theorem eX (R:SR c σ s α N) (h:VR W.kt α N v (.tup l)):∃ a vs,v=.ref a/\IsTup s.heap a vs.toArray/\ah W.kt α N vs l:=by
 rcases h.inv with⟨a,o,vs,n,rfl,d,_,A,b,r⟩|⟨a,vs,n,f,rfl,e,r⟩
 ·exact (bB _ _ rfl (fC _ (R.get d) A.1 _ b) r)
 ·exact (bB _ _ rfl (fC _ (R.aZ _ _ e) rfl _ rfl) r)
noncomputable def Cy(W:Wd)(α:List aep)(N:Led)(h:afd)(v:aec)(a:O):Prop:=∃ T c d,v=.ref T/\IsTup h T c.toArray/\a=.tup d/\ah W.kt α N c d
noncomputable def nq (c:Cx W) (A:aeX) (t:aeD) (b:Tg):Prop:=∀ v d k y,b v d k=y->y≠.no->∀ s a N E val,SR c d s a N->bS c y d a N E->Cy W a N s.heap val v->∀ Q,ko c y d a N k Q->WP W A (aie t c.env val) Q E s
theorem FI (i:ak c) (j:aP c d A) (m:(agH elts c.env).findIdx? (·.1)=none) (n:mr c A ((agH elts c.env).map (·.2)) g):nq c A (.Tuple elts kk pos) (cz (agH elts c.env).length g):=by
 intro v o k y h W s C N E val R p b Q q;refine gC b ?_;clear b;intro a D l u w x r;subst u;subst x;refine ae (aS (show aN .no _ (g l o k)=y from h) W) ?_;clear h;intro e h;refine ae (ad9.mp e) ?_;clear e;intro z f;refine assign_Tuple_tuple j.handled w ((ae9.trans (r.len f)).trans (aed z)).symm m λF B=>?_
 exact n _ _ _ y h W f _ _ _ E _ (R.ext i (t:=s.toks) (zg B)) p r _ q
theorem Ut (f:ak c) (i:aP c d A) (j:(agH elts c.env).findIdx? (·.1)=none) (m:mr c A ((agH elts c.env).map (·.2)) g):kb c A (.Tuple elts kk pos) (cz (agH elts c.env).length g):=by
 intro v t k y h b s u N E val R n e Q o;refine Y (dO h b) ?_;intro l W w;subst W;refine aH (eX R e) ?_;clear e;intro a p W q r;subst W;exact FI f i j m _ _ _ _ h b _ _ _ _ _ R n (l7 a p _ rfl q rfl r) Q o
noncomputable def aC(g:Tg)(e:Ev):Sc:=λc kn d=>e c λv c=>g v c kn
theorem FJ (b:eJ e=false) (f:qZ c A x g) (i:aE c A e j):bQ c A (.Assign [.Name x t] e p) (aC g j):=by
 intro k kn u y h d s l N E R W Q m w;refine wpAny_Assign_Name (i k _ y h d s l N E R W _ λv z val B C D h n a o=>?_) (jU b _ _ _)
 exact f _ _ _ y h d _ _ _ E _ n (W.step a.kp) o _ λF G H I h q r=>m _ _ _ _ h q (a.Bj r)
theorem R8 (f:eJ e=false) (i:agV [.Tuple elts kk a] e c.env=pure none) (j:kb c A (.Tuple elts kk a) g) (k:aE c A e l):bQ c A (.Assign [.Tuple elts kk a] e p) (aC g l):=by
 intro m kn w y h d s n N E R W Q o x;refine Assign_Tuple (k m _ y h d s n N E R W _ λv z val B C D h q b r=>?_) (jU f (some (.Tuple elts kk a)) p.line c.env) i
 exact j _ _ _ y h d _ _ _ E _ q (W.step b.kp) r _ λF G H I h t u=>o _ _ _ _ h t (b.Bj u)
noncomputable def ff (n:Nat) (g:iS):Tg:=λv c k=>cD .no v λl=>aN .no (and (aem l.length n) (aeS l)) (g l.reverse c k)
theorem ah.rev (h:ah T α N vs l):aeS l=true->ah T α N vs.reverse l.reverse:=ah.ind (P:=λvs l=>aeS l=true->ah T α N vs.reverse l.reverse) (λc=>.nil)
 (λh c r p=>by rw[agg,agg];exact (r (vy p)).app (.cons h .nil)) (λc c c c=>iu) (λc c c=>iu) h
theorem QK(h:aeS l=true):aeS l.reverse=true:=List.all_reverse.trans h
theorem R9 (q:ak c) (u:aP c d A) (w:eJ e=false) (x:agV [.Tuple elts kk j] e c.env=pure (some a)) (z:mr c A (a.reverse.map λn=>bindName c.env n) g) (b:aE c A e B):bQ c A (.Assign [.Tuple elts kk j] e p) (aC (ff a.length g) B):=by
 intro C kn T y h W s D N E R k Q F G;refine Assign_Tuple_swapped (b C _ y h W s D N E R k _ λv V val H X Z h l m o=>?_) (jU w (some (.Tuple elts kk j)) p.line c.env) x
 refine Y (dO h W) ?_;clear h G;intro qa f h;subst f;refine ae (aS h W) ?_;clear h;intro e h;refine ae (ad9.mp e) ?_;clear e;intro I i;refine aH (eX l o) ?_;clear o;intro qb L f M r;subst f;rw [show a.length=L.toArray.size from ((ae9).trans ((r.len i).trans (aed I))).symm];refine unpackItems_tuple u.handled M λh' b=>?_
 exact z _ _ _ y h W (QK i) _ _ _ E _ (l.ext q (t:=H.toks) (zg b)) (k.step m.kp) (r.rev i) _ λσ₂ d0 eh dJ h P S=>F _ _ _ _ h P (m.Bj S)
theorem Sa (a:qZ c A x g):Hf c A (λv=>bindName c.env x v) g:=
 λv d k y h W s b N E val R e f Q i=>bindName_ (a v d k y h W s b N E val R e f Q i)
noncomputable def bq(e:Ev):Sc:=λc kn d=>e c λd c=>kn c
theorem Sb (a:ak c) (b:eJ e=false) (f:aE c A e g):bQ c A (.Expr e p) (bq g):=by
 intro d kn n y h W s i N E R j Q k o;refine aiP ?_ (by unfold interactive;rw[show c.env.scope.kind=.function from a.kind];rfl) (jU b _ _ _)
 exact f d _ y h W s i N E R j _ λv q val r t u h l m w=>k _ _ _ _ h l m.toSts
noncomputable def jo (x:Str) (v:O) (l:List (Str×O)):List (Str×O):=aeC [(x,v)] (λe r c=>aen (e::c) ((e.1,v)::r) (seq x e.1)) l
theorem zl:jo x v (e::l)=if x=e.1 then (e.1,v)::l else e::jo x v l:=by
 show aen (motive:=λc=>List (Str×O)) (e::jo x v l) ((e.1,v)::l) (seq x e.1)=_
 induction q:seq x e.1 using aee with
 |true=>rw[if_pos (gG.mp q)]
 |false=>rw[if_neg λh=>by rw[gG.mpr h]at q;exact gr q]
theorem bM.put{P K α N x v av t}(b:VR K α N v av){a aes}(r:bM P K α N a aes):bM P K α N (putL x (aiN P x) (.str x t) v a) (jo x av aes):=by
 induction r with
 |nil=>exact .cons b .nil
 |@cons y d u A a aes h r c=>
  rw[zl];unfold putL;by_cases e:x=y
  ·subst e;rw[if_pos (by show (x ==x)=true;exact beq_self_eq_true x),if_pos rfl]
   exact .cons b r
  ·rw[if_neg (by show ¬((y ==x)=true);exact λz=>e (beq_iff_eq.mp z).symm),if_neg e]
   exact .cons h c
theorem bM.length{P K α N a aes}(h:bM P K α N a aes):a.length=aes.length:=by
 induction h with
 |nil=>rfl
 |cons d A c=>exact congrArg (·+1) c
theorem PF(x:Str)(v:O)(l):(jo x v l).length<=l.length+1:=by
 induction l with
 |nil=>exact aeu _
 |cons e r c=>
  rw[zl];by_cases q:x=e.1
  ·rw[if_pos q];exact afY _
  ·rw[if_neg q];exact af6 c
noncomputable def M9{α:Type}(l:List α):Bool:=we l (nat_lit 500)
noncomputable def bk (cls:List Nat) (name:Str) (o e:Ev):Sc:=λc kn W=>e c λv c=>o c λA c=>dZ .no c.st A λi o=>mi .no o λC d=>aD .no (c.st.get (agf i)) λp=>Ah .no p
 (aN .no (and (and (cL C cls) (M9 d)) (not (or (cL i c.mark) (cL (agf i) c.mark)))) (kn (c.tJ i (.obj C (jo name v d)))))
theorem zG (R:SR c σ s α N) (a:i<σ.n) (b:j<σ.n):(σ.tJ i o).st.get j=if j=i then some o else σ.st.get j:=
 get_set R.wf (aej a R.bD) (aej b R.bD)
theorem SR.Wa (R:SR c σ s α N) (T:ak c) (hi:σ.st.get (j+1)=some (.obj C es)) (V:σ.st.get j=some .own) (D:α[j+1]?=some a) (X:(a,ahp C l)∈N) (r:α[j]?=some l) (E:(l,o)∈N) (Z:∀ w,o≠afe w) (uB:j∉σ.mark) (abk:j+1∉σ.mark):
  ∃ i,Upd l o o' (N++c.ax) (i++c.ax)/\bh σ α N (σ.tJ (j+1) (.obj C es')) α i/\∀ {h':afd} {t:Nat} {m:Str->Option aec} {M n},NR c σ.loc α N m->Fr c.h₀ c.L h' m->agD c.h₀ c.L h' (i++c.ax)->o'=afP M n->bM W.w.params W.kt α i M es'->
   SR c (σ.tJ (j+1) (.obj C es')) {s with heap:=h',toks:=t} α i:=by
 refine j0 (Gk o' R.M6 E) λi qa F P A=>?_
 have x:=R.lt D;have g:Ge α N α i:=⟨afA _,λp d hn=>A p d λe=>hn (e▸aeM r),λu_ h=>.inl h,λqb w h=>by
  by_cases q:qb=l
  ·subst q;exact absurd (aea ((R.news.get (aef _ E)).symm.trans (R.news.get (aef _ h)))) (Z w)
  ·exact⟨w,A _ h q⟩⟩
 have st:bh σ α N (σ.tJ (j+1) (.obj C es')) α i:=⟨⟨g,iz,λk hk=>by
  have y:k<j+1:=ae7 (aej hk i9);rw[zG R x (agk y x),if_neg (aeE y)],aeu _,rfl,λk b ob hk u v u_=>A _ v λe=>by
   have y:k<j:=aej hk i9;exact aeE y (hH R u (show α[j]?=some b by rw[show b=l from e];exact r)),λk hk=>⟨by
  have G:k≠j+1:=λe=>abk (e▸hk)
  rw[zG R x (R.bt k hk),if_neg G],λb ob u v=>A _ v λe=>by
   have G:k≠j:=λe=>uB (e▸hk)
   exact G (hH R u (show α[j]?=some b by rw[show b=l from e];exact r))⟩⟩,rfl⟩
 have H:∀ {k B},α[k]?=some B->k≠j->B≠l:=λh z z'=>z (hH R h (z'▸r))
 refine (dI i (qa.app λp d e=>R.Bl (a:=l) (aew (f:=λp:aep×Obj=>p.1) E) (e▸aew d)) st (λhm Q km eo he=>⟨(ay _ Q (hm.mono g)),R.aK.mono g,km,by rw[aeO,F,←aeO];exact R.nodup,R.inj,λk I hk e=>?_,λa h=>F▸R.all a h,λp d=>?_,R.wf.set,R.bD,R.len,aev iz R.low,R.bt,R.gens,R.os,T.aZ.keeps Q.keep⟩))
 rotate_left
 ·rcases aeH.mp d with d|d
  ·have L:p.1∈i.map (·.1):=aew d;rw[F]at L;refine Y (aeG.mp L) ?_;clear L;intro q hq e;have z:=R.hi q (aef _ hq);rw[e]at z;exact z
  ·exact R.hi p (aek _ d)
 rw[zG R x hk]at e;by_cases q:k=j+1
 ·rw[if_pos q]at e;have bj:=aea e;clear e;subst I;subst q;exact (bB a _ D (A _ X (H D (ag7 j))) (.obj rfl r (eo▸P) he))
 ·rw[if_neg q]at e;by_cases S:k=j
  ·subst S;rw[V]at e;have bj:=aea e;clear e;subst I;exact (bB l o' r P .own)
  ·refine aH (R.obj k I hk e) ?_;clear R hk e;intro B b u v h3;refine (bB B b u (A _ v (H u S)) ?_);exact h3.mono g λj' d' adZ z1 z2 z3=>A _ z2 (H z1 λz=>q (by rw[z3,z]))
theorem QL (f:ak c) (Q:eJ e=false) (l:(cls.all λC=>W.G.attr C name)=true) (R:aE c A o S) (T:aE c A e V):bQ c A (.Assign [.Attribute o name p'] e p) (bk cls name S V):=by
 intro X kn kr y h d s Z qa qb qc i qh hn hr;refine ahb ?_ (jU Q _ _ _);refine T X _ y h d s Z qa qb qc i _ λv dj val dk cK bZ h dn m hv=>?_
 refine R _ _ _ h d _ _ _ _ dn (i.step m.kp) _ λov σ₂ vo n eh dJ h a r u=>?_
 have b:=u;revert b;refine vt a u h d λqi C w x qd da j qe z B hj D E F G h b=>?_
 subst hj;refine Y (aR h d) ?_;clear h;intro p H h;refine ae (QC h d) ?_;clear h i hr;intro bj h;subst bj;refine ae (aS h d) ?_;clear h d;intro I h;refine ae (ad9.mp I) ?_;clear I;intro L k;refine ae (ad9.mp L) ?_;clear L;intro M m2;refine Y ((z▸b:VR W.kt eh dJ _ (.ref (qd+1))).inv) ?_;clear b z;intro x' e N
 cases e
 refine Y a.fr λqj qf ez=>?_
 refine Fn (f.g.attr _ _ (aeB.mp l _ (nP M))) ?_;clear l M;intro p1 p2 p3 p4 p5 p6;have hl:(getL name j).isSome=true:=by rcases G.find (x:=name) with⟨_,_,_,q,_⟩|⟨_,q⟩<;>rw [q]<;>rfl
 have P:=G.put (x:=name) (t:=n.toks+1) (hv.mono r.ge);refine cJ (a.Wa f (es':=jo name v w) (o':=afP (putL name (aiN W.w.params name) (.str name (n.toks+1)) val j) (putN name j qe)) B H N D E F (λps e=>by cases e) (iy (He k).2) (iy (He k).1)) ?_;clear B H N E k;intro N' qg g K
 refine set_dict qf f.aZ a.news (aiO a.news (aef _ D) (aef _ F)) rfl p4 p5 p6 p2 hl rfl qg ?_ λh' F' km=>?_
 ·exact P.length▸aev (PF name v w) (aev (af6 (i4 m2)) (by decide))
 ·exact hn _ _ _ _ h (K ez F' km rfl (P.mono g.ge)) (m.trans (r.trans g)).toSts
theorem kJ{α:Type}{v:α}{l:List (Str×α)}:ahL x ((y,v)::l)=if x=y then some v else ahL x l:=by
 rw[afq];by_cases q:x=y
 ·rw[if_pos q,q,beq_self_eq_true]
 ·rw[if_neg q,beq_eq_false_iff_ne.mpr q]
theorem aU.ind{K α N}{P:List (Str×aec)->List (Str×O)->Prop}(nil:P [] []) (cons:∀ {x v av bs abs},VR K α N v av->aU K α N bs abs->P bs abs->P ((x,v)::bs) ((x,av)::abs)){abs}:∀ {bs},aU K α N bs abs->P bs abs:=by
 induction abs with
 |nil=>intro bs h;rw [h.nil_inv];exact nil
 |cons p abs d=> intro bs h;refine aH (aU.cj (x:=p.1) (av:=p.2) h) ?_;clear h;intro v a A W c;subst A;exact cons W c (d c)
theorem aU.append{K α N bs abs b e}(h:aU K α N bs abs) (h':aU K α N b e):aU K α N (bs++b) (abs++e):=aU.ind (P:=λbs abs=>aU K α N (bs++b) (abs++e)) h' (λa c r=>.cons a r) h
theorem aU.reverse{K α N bs abs}(h:aU K α N bs abs):aU K α N bs.reverse abs.reverse:=aU.ind (P:=λbs abs=>aU K α N bs.reverse abs.reverse) .nil (λa c r=>by rw[agg,agg];exact r.append (.cons a .nil)) h
theorem aU.Na{K α N x bs abs}(h:aU K α N bs abs):∀ v,abs.lookup x=some v->∃ val,bs.lookup x=some val/\VR K α N val v:=aU.ind (P:=λbs abs=>∀ v,abs.lookup x=some v->∃ val,bs.lookup x=some val/\VR K α N val v) (λc e=>nomatch e)
 (fun{y w d bs abs}a _ r v e=>by
  rw[kJ]at e ⊢;by_cases q:x=y
  ·rw[if_pos q]at e ⊢;exact (ay _ rfl (aea e▸a))
  ·rw[if_neg q]at e ⊢;exact r v e) h
theorem aU.lk0{K α N x bs abs}(h:aU K α N bs abs):abs.lookup x=none->bs.lookup x=none:=aU.ind (P:=λbs abs=>abs.lookup x=none->bs.lookup x=none) (λc=>rfl)
 (fun{y w d bs abs}_ _ r e=>by
  rw[kJ]at e ⊢;by_cases q:x=y
  ·rw[if_pos q]at e;exact nj e
  ·rw[if_neg q]at e ⊢;exact r e) h
theorem aU.names{K α N bs abs}(h:aU K α N bs abs):bs.map (·.1)=abs.map (·.1):=aU.ind (P:=λbs abs=>bs.map (·.1)=abs.map (·.1)) rfl (fun{x _ _ _ _}_ _ r=>congrArg (x::·) r) h
theorem se{α:Type}{f:Str->Bool}{p:Str×α}{l:List (Str×α)}:(p::l).filter (λp=>f p.1)=if f p.1=true then p::l.filter (λp=>f p.1) else l.filter (λp=>f p.1):=by
 by_cases q:f p.1=true
 ·rw[if_pos q];exact ah7 (p:=λp:Str×α=>f p.1) q
 ·rw[if_neg q];exact ah8 (p:=λp:Str×α=>f p.1) q
theorem aU.filter{K α N}(f:Str->Bool){bs abs}(h:aU K α N bs abs):aU K α N (bs.filter λp=>f p.1) (abs.filter λp=>f p.1):=aU.ind (P:=λbs abs=>aU K α N (bs.filter λp=>f p.1) (abs.filter λp=>f p.1)) .nil
 (fun{x v c bs abs}a _ r=>by
  rw[se,se];by_cases q:f x=true
  ·rw[if_pos q,if_pos q];exact .cons a r
  ·rw[if_neg q,if_neg q];exact r) h
theorem ER (h:mq fd a=some b):fd.params.zip (a++fd.dh.drop (fd.dh.length-(fd.params.length-a.length)))=b:=by
 by_cases c:a.length<=fd.params.length/\fd.params.length<=a.length+fd.dh.length
 ·exact aea ((if_pos c).symm.trans h)
 ·exact nomatch (if_neg c).symm.trans h
theorem PG (h:mq fd e=some b):∀ p∈b,p.1∈fd.params:=λp c=>(List.of_mem_zip (a:=p.1) (b:=p.2) (ER h▸c)).1
noncomputable def eM(sc:aft)(x:Str):Bool:=sc.names.lookup x ==some NameKind.local
theorem sb:eM sc x=true↔sc.names.lookup x=some .local:=beq_iff_eq
theorem D0{m:Str->Option aec}:aD (if x=n then some v else m x) (l.lookup x) some=aD (m x) ((l++[(n,v)]).lookup x) some:=by
 rw[List.lookup_append];induction l.lookup x using aer with
 |some v=>rfl
 |none=>
  rw[kJ];by_cases e:x=n
  ·rw[if_pos e,if_pos e];rfl
  ·rw[if_neg e,if_neg e];rfl
theorem Sd{env:Env}(binds:List (Str×aec)):∀ (m:Str->Option aec) (x:Str),bindL env.kindOf binds m x=aD (m x) ((binds.filter λp=>eM env.scope p.1).reverse.lookup x) some:=by
 induction binds with
 |nil=>exact λm x=>rfl
 |cons p r c=>
  intro m x;rw[se];refine (c (if env.kindOf p.1=some .local then λy=>if y=p.1 then some p.2 else m y else m) x).trans ?_
  by_cases h:eM env.scope p.1=true
  ·rw[if_pos h,if_pos (show env.kindOf p.1=some .local from sb.mp h),agg];exact D0
  ·rw[if_neg h,if_neg (show ¬env.kindOf p.1=some .local from λq=>h (sb.mpr q))]
theorem Se{env:Env}(binds:List (Str×aec)):∀ (m:Str->Option aec) (x:Str),bindC env.kindOf binds m x=aD (m x) ((binds.filter λp=>!eM env.scope p.1).reverse.lookup x) some:=by
 induction binds with
 |nil=>exact λm x=>rfl
 |cons p r c=>
  intro m x;rw[se (f:=λx=>!eM env.scope x)]
  refine (c (if env.kindOf p.1=some .local then m else λy=>if y=p.1 then some p.2 else m y) x).trans ?_
  by_cases h:eM env.scope p.1=true
  ·rw[if_pos (show env.kindOf p.1=some .local from sb.mp h),if_neg (by rw[h];exact aeP)]
  ·rw[if_neg (show ¬env.kindOf p.1=some .local from λq=>h (sb.mpr q)),if_pos ((aeK _).mpr (Bool.eq_false_iff.mpr h)),agg]
   exact D0
theorem Pl (b:List (Str×afm)):∀ (n:Nat) (a:List (Str×aep)),afF n b a=afF n b []++a:=by
 induction b with
 |nil=>exact λn a=>rfl
 |cons p r c=>
  intro n a;show (if p.2 ==.cell then afF (n+1) r ((p.1,n)::a) else afF n r a)=(if p.2 ==.cell then afF (n+1) r [(p.1,n)]else afF n r [])++a;by_cases q:(p.2 ==.cell)=true
  ·rw [if_pos q,if_pos q,c (n+1) ((p.1,n)::a),c (n+1) [(p.1,n)],afG];rfl
  ·rw [if_neg q,if_neg q];exact c n a
theorem Pa (e:List (Str×afm)):∀ (n:Nat),(∀ p∈afF n e [],n<=p.2)/\((afF n e []).map (·.2)).Nodup:=by
 induction e with
 |nil=>exact λn=>⟨λp c=>(nomatch c),.nil⟩
 |cons p r d=>
  intro n;refine ae (d (n+1)) λA f=>?_
  rw [show afF n (p::r) []=if p.2 ==.cell then afF (n+1) r [(p.1,n)]else afF n r []from rfl];by_cases q:(p.2 ==.cell)=true
  ·rw [if_pos q,Pl r (n+1) [(p.1,n)]];refine⟨λp c=>?_,?_⟩
   ·rcases aeH.mp c with c|c
    ·exact Nat.le_of_succ_le (A p c)
    ·rw [ael.mp c];exact aeu _
   ·rw [aeO];refine aeY.mpr (bH f (ae5 _ _) (λa W b g=>?_))
    refine Y (aeG.mp W) ?_;clear W;intro p c h;subst h;rw [ael.mp g];exact agl (A p c)
  ·rw [if_neg q];exact d n
theorem O3 (a:List (Str×afm))(n:Nat):(afF n a []).map (·.1)=(afF 0 a []).map (·.1):=cellsFrom_names a n 0 [] [] rfl
noncomputable def jR (sc:aft):List Str:=(afF 0 sc.names []).map (·.1)
theorem PH{cm:Str->Option aec}(h:CellsAre cm cs cells):cells.map (·.1)=cs.map (·.2)/\
  ∀ (i:Nat) x a,cs[i]?=some (x,a)->∃ o,cells[i]?=some (a,o)/\o.data=.cell (cm x):=by
 induction h with
 |nil=>exact⟨rfl,λi x a e=>nomatch e⟩
 |@cons n W o b f h r c=>
  refine ae c ?_;clear c;intro d A;refine⟨congrArg (_::·) d,λi x a e=>?_⟩
  induction i using aez with
  |zero=>cases aea e;exact⟨_,rfl,h⟩
  |succ i=>exact A i x a e
structure aM where
 n:Nat
 gV:List O
 flags:List Bool
 cells:List (Nat×Option Nat)
 body:Call->Sc
noncomputable def nr{α:Type}(l:List α) (n:Nat):Option α:=aeC (motive:=λc=>Nat->Option α) (λc=>none) (λa c d n=>afX (motive:=λc=>Option α) (some a) (λm c=>d m) n) l n
theorem sI{α:Type}{l:List α}:∀ {n:Nat},nr l n=l[n]?:=by
 induction l with
 |nil=>exact fun{n}=>rfl
 |cons a l c=>intro n;induction n using aez with
  |zero=>rfl
  |succ n=>exact c
noncomputable def AK{α:Type}(l:List α) (n:Nat):Bool:=aeC (motive:=λc=>Nat->Bool) (λn=>aem n (nat_lit 0)) (λc c d n=>aen (d (agf n)) false (aem n (nat_lit 0))) l n
theorem Sf{α:Type}{l:List α}:∀ {n:Nat},AK l n=true->l.length=n:=by
 induction l with
 |nil=>exact λh=>(aed h).symm
 |cons a l c=>intro n h;induction n using aez with
  |zero=>exact aX h
  |succ n=>exact congrArg (·+1) (c h)
noncomputable def X0 (E:aM) (args:List O):Option (List O):=aN none (and (aeQ args.length E.n) (aeQ E.n (ahK args.length E.gV.length))) (some (args++E.gV.drop (Nat.sub E.gV.length (Nat.sub E.n args.length))))
noncomputable def fill (E:aM) (args:List O):Option (List O):=aen (X0 E args) (some args) (AK args E.n)
noncomputable def ta (fs:List Bool) (i:Nat) (args:List O):List (Nat×O):=aeC (motive:=λc=>Nat->List O->List (Nat×O)) (λc c=>[]) (λb c d i args=>aeC (motive:=λc=>List (Nat×O)) [] (λv r c=>aen (d (afb i) r) ((i,v)::d (afb i) r) b) args) fs i args
noncomputable def wi (l:List (Nat×Option Nat)):Nat->List (Nat×Nat):=aeC (motive:=λc=>Nat->List (Nat×Nat)) (λc=>[]) (λp c d n=>(p.1,n)::d (afb n)) l
noncomputable def zW (σ:LS) (os:List AO):LS:=aeC (motive:=λc=>LS->LS) (λσ=>σ) (λo c d σ=>d (σ.push o)) os σ
noncomputable def AL (args:List O)(p:Option Nat):AO:=.cell (aD none p (nr args))
noncomputable def qo (args:List O) (l:List (Nat×Option Nat)):List AO:=aeC [] (λp d c=>AL args p.2::c) l
noncomputable def enter (E:aM) (args:List O) (σ:LS):LS:=zW (LS.rec (motive:=λc=>LS) (λc c t n lo m=>⟨ta E.flags (nat_lit 0) args,wi E.cells n,t,n,lo,m⟩) σ) (qo args E.cells)
noncomputable def back (σ a:LS):LS:=LS.rec (motive:=λd=>LS) (λl c d d d m=>LS.rec (motive:=λd=>LS) (λd d t n lo d=>⟨l,c,t,n,lo,m⟩) a) σ
noncomputable def roomF (E:aM) (σ:LS):Bool:=aeC (motive:=λc=>Bool) true (λc c c=>aeQ (ahK σ.n E.cells.length) bD) E.cells
theorem Sg (b:σ.n<=1024) (h:roomF E σ=true):aeQ (ahK σ.n E.cells.length) bD=true:=by
 unfold roomF at h;induction c:E.cells using aet with
 |nil=>exact aho b
 |cons a l=>rw[c]at h;exact h
noncomputable def jq (E:aM) (call:Call) (args:List O):Ev:=λc k=>aeT .no (λa=>aen .no (E.body call (enter E a c) (λd=>k .none (back c d)) (λv d=>k v (back c d))) (roomF E c)) (fill E args)
structure X1(σ bu:LS)(os:List AO):Prop where
 loc:bu.loc=σ.loc
 aK:bu.aK=σ.aK
 n:bu.n=σ.n+os.length
 lo:bu.lo=σ.lo
 mark:bu.mark=σ.mark
 wf:Wf 10 bu.st
 get:∀ i,i<σ.n+os.length->bu.st.get i=if i<σ.n then σ.st.get i else os[i-σ.n]?
theorem y9 (os:List AO):∀ (σ:LS),Wf 10 σ.st->σ.n+os.length<=1024->X1 σ (zW σ os) os:=by
 induction os with
 |nil=>exact λσ h A=>⟨rfl,rfl,rfl,rfl,rfl,h,λi c=>(if_pos c).symm⟩
 |cons o r e=>
  intro σ h A;have d:σ.n+1+r.length=σ.n+(r.length+1):=ag5 _ _;have W:σ.n+1+r.length<=1024:=d▸A;have a:σ.n<2^10:=aev (aeR _ _) W;obtain⟨f,g,k,l,p,s,t⟩:=e (σ.push o) h.set W;refine⟨f,g,k.trans d,l,p,s,λi c=>(t i (d▸c)).trans ?_⟩
  show (if i<σ.n+1 then (σ.push o).st.get i else r[i-(σ.n+1)]?)=_;have b:i<σ.n+1->(σ.push o).st.get i=if i=σ.n then some o else σ.st.get i:=λc=>get_set h a (aej c a)
  rcases Nat.lt_trichotomy i σ.n with q|rfl|q
  ·rw[if_pos (ae7 q),if_pos q,b (ae7 q),if_neg (aeE q)]
  ·rw[if_pos (agp _),if_neg (afx _),b (agp _),if_pos rfl,Nat.sub_self];rfl
  ·refine aL (Nat.exists_eq_add_of_lt q) ?_;clear c;intro j u;subst u;rw[if_neg (afk.mpr (Nat.succ_le_of_lt q)),if_neg (afk.mpr (agM q)),Nat.add_sub_add_right,agy,show σ.n+j+1-σ.n=j+1 from agy (n:=σ.n) (m:=j+1)];rfl
theorem PI (args:List O) (l:List (Nat×Option Nat)):(qo args l).length=l.length:=by
 induction l with
 |nil=>rfl
 |cons p r c=>exact congrArg (·+1) c
theorem PJ (args:List O)(l:List (Nat×Option Nat)):∀ (i:Nat),(qo args l)[i]?=(l[i]?).map λp=>AL args p.2:=by
 induction l with
 |nil=>exact λi=>rfl
 |cons p r c=>intro i;induction i using aez with
  |zero=>rfl
  |succ i=>exact c i
theorem Sh:∀ {i:Nat}{args:List O}{j:Nat}{v:O},lk j (ta fs i args)=some v->∃ t,j=i+t/\fs[t]?=some true/\args[t]?=some v:=by
 induction fs with
 |nil=>exact λh=>nomatch h
 |cons b fs c=>
  intro i args j v h;induction args using aet with
  |nil=>exact aT h
  |cons a args=>
   have d:lk j (ta fs (i+1) args)=some v->∃ t,j=i+t/\(b::fs)[t]?=some true/\(a::args)[t]?=some v:=λh=>by
    refine cJ (c h) ?_;clear c;intro t A W f;exact (dI (t+1) (A.trans (ag5 _ _)) W f)
   induction b using aee with
   |false=>exact d h
   |true=>
    have h:lk j ((i,a)::ta fs (i+1) args)=some v:=h;rw[eC]at h;by_cases e:j=i
    ·rw[if_pos e]at h;exact (dI 0 e rfl h)
    ·rw[if_neg e]at h;exact d h
theorem Si:∀ {n j i:Nat},lk j (wi l n)=some i->∃ t p,i=n+t/\l[t]?=some p/\p.1=j:=by
 induction l with
 |nil=>exact λh=>nomatch h
 |cons p r c=>
  intro n j i h;have h:lk j ((p.1,n)::wi r (n+1))=some i:=h;rw[eC]at h;by_cases e:j=p.1
  ·rw[if_pos e]at h;exact (bB 0 p ((aea h).symm) rfl e.symm)
  ·rw[if_neg e]at h;refine aH (c h) ?_;clear c h;intro t d A W a;exact (bB (t+1) d (A.trans (ag5 _ _)) W a)
noncomputable def qB (a:List Str)(x:Str):Option Nat:=let i:=a.findIdx (· ==x);if i<a.length then some i else none
structure k7 (W:Wd)(fd:aJ)(E:aM):Prop where
 n:E.n=fd.params.length
 gV:E.gV=fd.dh
 Bq:∀ (i:Nat)x,fd.params[i]?=some x->∃ k,fd.scope.names[i]?=some (x,k)/\(E.flags[i]?=some true->k=.local)
 Lw:E.flags.length<=fd.params.length
 q8:fd.params.Nodup
 Br:(jR fd.scope).Nodup
 cells:E.cells.length=(jR fd.scope).length/\∀ (i:Nat)x,(jR fd.scope)[i]?=some x->∃ n k,E.cells[i]?=some (n,qB fd.params x)/\fd.scope.names[n]?=some (x,k)/\eM fd.scope x=false
 body:∀ call d,dv W d call->∀ (c:Cx W)A,ak c->aP c d A->c.comp=none->c.scope=fd.scope->(∀ x,fd.code=some x->c.env.code=.ref x.1/\c.env.qual=x.2)->cy c A fd.body (E.body call)
theorem lookup_mem{α:Type}{v:α}{l:List (Str×α)}:l.lookup x=some v->(x,v)∈l:=by
 induction l with
 |nil=>exact λh=>nomatch h
 |cons p l c=>
  intro h;rw[show p=(p.1,p.2)from rfl,kJ]at h;by_cases e:x=p.1
  ·rw[if_pos e]at h;rw[e,←aea h];exact .head _
  ·rw[if_neg e]at h;exact .tail _ (c h)
theorem D6{α:Type}{l:List (Str×α)}:(l.map (·.1)).Nodup->l.reverse.lookup x=l.lookup x:=by
 induction l with
 |nil=>exact λa=>rfl
 |cons p l d=>
  intro c;refine ae (aeU.mp c) ?_;clear c;intro A W;rw[agg,List.lookup_append,d W,show p=(p.1,p.2) from rfl,kJ,kJ];by_cases e:x=p.1
  ·rw[if_pos e];induction q:l.lookup x using aer with
   |none=>rw[if_pos e];rfl
   |some b=>exact absurd (aew (f:=λp:Str×α=>p.1) (lookup_mem q)) (e▸A)
  ·rw[if_neg e,if_neg e]
   cases l.lookup x<;>rfl
theorem D7{α:Type}{b:List Str}:∀ {vs:List α}{i:Nat}{x:Str}{v:α},b.Nodup->b[i]?=some x->vs[i]?=some v->(b.zip vs).lookup x=some v:=by
 induction b with
 |nil=>exact λj h=>nomatch h
 |cons p b W=> intro vs i x v A c d;refine ae (aeU.mp A) ?_;clear A;intro f g;induction vs using aet with
  |nil=>exact aT d
  |cons a vs=> rw[List.zip_cons_cons,kJ];induction i using aez with
   |zero=>rw[if_pos (aea c).symm];exact d
   |succ i=>rw[if_neg λe:x=p=>f (e▸aeM (show b[i]?=some x from c))];exact W g c d
theorem DO{α:Type}{f:Str->Bool}(a:f x=true){l:List (Str×α)}:(l.filter λp=>f p.1).lookup x=l.lookup x:=by
 induction l with
 |nil=>rfl
 |cons p l c=>
  rw[se,show ahL x (p::l)=_ from kJ];by_cases q:f p.1=true
  ·rw[if_pos q,show ahL x (p::l.filter λp=>f p.1)=_ from kJ,c]
  ·rw[if_neg q,c,if_neg λe:x=p.1=>q (e▸a)]
theorem DW{α:Type}{f:Str->Bool}{l:List (Str×α)}(h:(l.map (·.1)).Nodup):((l.filter λp=>f p.1).map (·.1)).Nodup:=
 List.Sublist.nodup (List.Sublist.map _ List.filter_sublist) h
theorem QM (H:k7 W fd E) (h:fill E args=some a):mq fd args=some (fd.params.zip a)/\a.length=fd.params.length:=by
 induction e:AK args E.n using aee with
 |true=> have c:args.length=fd.params.length:=(Sf e).trans H.n;unfold fill at h;rw[e]at h;have A:=aea h;subst a;refine ⟨?_,c⟩;unfold mq;rw[if_pos ⟨af8 c,c▸aeR _ _⟩,c,Nat.sub_self,Nat.sub_zero,ahA,agu]
 |false=> unfold fill at h;rw[e]at h;have h:aN none (and (aeQ args.length E.n) (aeQ E.n (ahK args.length E.gV.length))) (some (args++E.gV.drop (Nat.sub E.gV.length (Nat.sub E.n args.length))))=some a:=h;rw[H.n,H.gV]at h;refine ae (aS h aO) ?_;clear h;intro e b;refine ae (ad9.mp e) ?_;clear e;intro c d;have c:args.length<=fd.params.length:=aei c;have d:fd.params.length<=args.length+fd.dh.length:=aei d;have A:=aea b;subst a;refine ⟨if_pos ⟨c,d⟩,?_⟩;show (args++List.drop (fd.dh.length-(fd.params.length-args.length)) fd.dh).length=_;rw[agL,List.length_drop,Nat.sub_sub_self (Nat.sub_le_of_le_add (Nat.add_comm _ _▸d)),aiJ c]
theorem Sj {fd:aJ} {E:aM} (H:k7 W fd E) {c':Cx W} (iT:ak c') (wj:c'.comp=none) (R:SR c σ s α N) (hsc:c'.env.scope=fd.scope) (kq:c'.env.cells=afF (L'+1) fd.scope.names []) (l:a.length=fd.params.length) (iG:σ.n+E.cells.length<=1024)
  (z:aU W.kt α N binds (fd.params.zip a)) {h₁:afd} {t:Nat} {cells}
  (F':Fr c'.h₀ c'.L h₁ (bindL c'.env.kindOf binds λk=>none)) (M:c'.ax=c.ax) (N':agD c'.h₀ c'.L h₁ (cells++(N++c.ax))) (qb:CellsAre (bindC c'.env.kindOf binds λk=>none) (afF (L'+1) fd.scope.names []) cells) (bN:∀ p∈N++c.ax,p.1<L') (mU:afS<L'):
  ∃ bG,SR c' (enter E a σ) {s with heap:=h₁,toks:=t} bG (cells++N)/\Sts σ α N (enter E a σ) bG (cells++N):=by
 refine ae (PH qb) λP y2=>?_
 refine ae (Pa fd.scope.names (L'+1)) λz1 z2=>?_
 have F:jR fd.scope=(afF (L'+1) fd.scope.names []).map (·.1):=(O3 fd.scope.names (L'+1)).symm
 have Q:E.cells.length=(afF (L'+1) fd.scope.names []).length:=by rw [H.cells.1,F,ahi]
 generalize uC:afF (L'+1) fd.scope.names []=d at*
 have Lx:∀ a∈d.map (·.2),a∉(N++c.ax).map (·.1):=λa l S=>by
  refine Y (aeG.mp l) ?_;intro p A C;subst C
  refine Y (aeG.mp S) λq T e=>?_
  have l1:=z1 p A
  have l2:=bN q T
  rw [e]at l2
  exact absurd l2 (afk.mpr (Nat.le_of_succ_le l1))
 have off:∀ a∈d.map (·.2),a∉N.map (·.1):=λa l S=>Lx a l (by rw [aeO];exact aef _ S)
 have g:Ge α N (α++d.map (·.2)) (cells++N):=⟨ahU _ _,λp A k=>aek _ A,λa h=>by
  rcases aeH.mp h with h|h
  ·exact .inl h
  ·exact .inr (off a h),λk ps h=>⟨ps,aek _ h⟩⟩
 have Ly:(qo a E.cells).length=E.cells.length:=PI a _
 obtain ⟨b1,b2,r,b4,V,b6,b7⟩:=y9 (qo a E.cells) ⟨ta E.flags 0 a,wi E.cells σ.n,σ.st,σ.n,σ.lo,σ.mark⟩ R.wf (by show σ.n+_<=1024;rw [Ly];exact iG)
 rw [Ly]at r b7
 change (enter E a σ).loc=_ at b1
 change (enter E a σ).aK=_ at b2
 change (enter E a σ).n=σ.n+E.cells.length at r
 change (enter E a σ).lo=σ.lo at b4
 change (enter E a σ).mark=σ.mark at V
 change Wf 10 (enter E a σ).st at b6
 have X:∀ i,i<σ.n+E.cells.length->(enter E a σ).st.get i=if i<σ.n then σ.st.get i else (qo a E.cells)[i-σ.n]?:=b7
 have Lz:(fd.params.zip a).map (·.1)=fd.params:=by rw [List.map_fst_zip (af8 l.symm)]
 have st:Sts σ α N (enter E a σ) (α++d.map (·.2)) (cells++N):=⟨g,by rw [b4];exact aeu _,λi m=>by
  rw [b4]at m
  have:i<σ.n:=aej m R.low
  rw [X i (aej this (aeR _ _)),if_pos this],by rw [r];exact aeR _ _,V,λk k k k k h k=>aek _ h,λi m=>⟨by
  have:i<σ.n:=R.bt i m
  rw [X i (aej this (aeR _ _)),if_pos this],λk k k h=>aek _ h⟩⟩
 refine (ay (α++d.map (·.2)) ⟨(ay _ F' ?_),?_,by rw [M,afG];exact N',?_,?_,λi qc m e=>?_,?_,λp A=>?_,b6,by rw [r];exact iG,?_,by rw [b4,r];exact aev R.low (aeR _ _),(λi h=>by rw [V]at h;rw [r];exact aej (R.bt i h) (aeR _ _)),R.gens,R.os,iT.aZ.keeps F'.keep⟩ st)
 ·unfold NR
  rw [wj,b1]
  intro j v Z
  refine cJ (Sh Z) λi G I D=>?_
  rw [ag8]at G
  subst G
  have m:j<fd.params.length:=by rw [←l];exact (aeV.mp D).1
  refine Y (H.Bq j _ (aeN m)) λqa o L=>?_
  obtain rfl:=L I
  have Nb:c'.scope.names=fd.scope.names:=congrArg Scope.names hsc
  have hl:eM c'.env.scope fd.params[j]=true:=sb.mpr (by rw [hsc];exact eW (by rw [←Nb];exact iT.cV) o)
  have ig:((fd.params.zip a).filter λp=>eM c'.env.scope p.1).reverse.lookup fd.params[j]=some v:=by
   rw [D6 (DW (by rw [Lz];exact H.q8)),DO (f:=λx=>eM c'.env.scope x) hl]
   exact D7 H.q8 (aeN m) D
  refine Y ((z.filter (λx=>eM c'.env.scope x)).reverse.Na v ig) λval w1 w2=>?_
  refine (dx _ _ val (by rw [show c'.scope.names=fd.scope.names from Nb];exact o) ?_ (w2.mono g))
  rw [Sd,w1];rfl
 ·rw [b2,kq]
  intro j i Z
  refine aH (Si Z) λt p G I D=>?_
  subst G
  have u:t<d.length:=by rw [←Q];exact (aeV.mp I).1
  have hx:(jR fd.scope)[t]?=some d[t].1:=by rw [F,af1,aeN u];rfl
  refine aH (H.cells.2 t _ hx) λn qa o L q3=>?_
  rw [I]at o
  have C:=aea o;clear o;subst p
  dsimp only at D
  subst D
  refine (dx _ qa (d[t].2) (by rw [show c'.scope=fd.scope from hsc];exact L) ?_ ?_)
  ·have nd:(d.map (·.1)).Nodup:=by
    rw [←F]
    exact H.Br
   exact eW nd (by rw [aeN u])
  ·rw [agU (by rw [R.len];exact aeR _ _),R.len,agy,af1,aeN u]
   rfl
 ·rw [M,afG,aeO,P]
  exact aeY.mpr (bH z2 R.nodup (λa l b z e=>Lx a l (e▸z)))
 ·exact aeY.mpr (bH R.inj z2 (λa l b z e=>off b z (e▸R.all a l)))
 ·rw [r]at m
  rw [X i m]at e
  by_cases q:i<σ.n
  ·rw [if_pos q]at e
   refine aH (R.obj i qc q e) λa b h1 y h3=>?_
   exact (bB a b (g.at h1) (aek _ y) (h3.mono g λk k k k h k=>aek _ h))
  ·rw [if_neg q,PJ]at e
   refine Y (afZ.mp e) ?_;intro p A C;subst C
   have f5:σ.n<=i:=afk.mp q
   have u:i-σ.n<d.length:=by rw [←Q];exact Nat.sub_lt_left_of_lt_add f5 m
   have hx:(jR fd.scope)[i-σ.n]?=some d[i-σ.n].1:=by rw [F,af1,aeN u];rfl
   refine aH (H.cells.2 _ _ hx) λn qa o L q3=>?_
   rw [A]at o
   have C:=aea o;clear o;subst p
   refine Y (y2 (i-σ.n) d[i-σ.n].1 d[i-σ.n].2 (aeN u)) λoc h1 y=>?_
   refine (bB (d[i-σ.n].2) oc ?_ (aef _ (aeM h1)) ?_)
   ·rw [agU (by rw [R.len];exact f5),R.len,af1,aeN u];rfl
   ·rw [Se]at y
    have hf:(λx=>!eM c'.env.scope x) d[i-σ.n].1=true:=by
     show (!eM c'.env.scope d[i-σ.n].1)=true
     rw [hsc,q3];rfl
    have Nc:=(z.filter (λx=>!eM c'.env.scope x)).reverse
    have lo:(List.filter (λp=>!eM c'.env.scope p.1) (fd.params.zip a)).reverse.lookup d[i-σ.n].1=(fd.params.zip a).lookup d[i-σ.n].1:=by
     rw [D6 (DW (f:=λx=>!eM c'.env.scope x) (by rw [Lz];exact H.q8)),DO (f:=λx=>!eM c'.env.scope x) hf]
    by_cases B:fd.params.findIdx (· ==d[i-σ.n].1)<fd.params.length
    ·have abl:fd.params[fd.params.findIdx (· ==d[i-σ.n].1)]?=some d[i-σ.n].1:=by
      rw [aeN B]
      have:=List.findIdx_getElem (w:=B)
      exact congrArg some (beq_iff_eq.mp this)
     have Nd:fd.params.findIdx (· ==d[i-σ.n].1)<a.length:=by rw [l];exact B
     have lz:=D7 (vs:=a) H.q8 abl (aeN Nd)
     refine Y (Nc.Na _ (lo.trans lz)) λval w1 w2=>?_
     rw [w1]at y
     rw [show qB fd.params d[i-σ.n].1=_ from if_pos B,show AL a (some (fd.params.findIdx (· ==d[i-σ.n].1)))=.cell (nr a _) from rfl,sI,aeN Nd]
     exact .cell y (w2.mono g)
    ·have lz:(fd.params.zip a).lookup d[i-σ.n].1=none:=by
      induction q:(fd.params.zip a).lookup d[i-σ.n].1 using aer with
      |none=>rfl
      |some v=>
       have:=List.of_mem_zip (lookup_mem q)
       exact absurd (List.findIdx_lt_length_of_exists (p:=(· ==d[i-σ.n].1)) (ay _ this.1 (beq_self_eq_true _))) B
     rw [Nc.lk0 (lo.trans lz)]at y
     rw [show qB fd.params d[i-σ.n].1=_ from if_neg B]
     exact .mo y
 ·intro a h
  rw [aeO,P]
  rcases aeH.mp h with h|h
  ·exact aek _ (R.all a h)
  ·exact aef _ h
 ·rw [M,afG]at A
  rcases aeH.mp A with A|A
  ·have:p.1∈cells.map (·.1):=aew A
   rw [P]at this
   refine Y (aeG.mp this) λq T e=>?_
   have:=z1 q T
   rw [e]at this
   exact beq_eq_false_iff_ne.mpr (agl (aej (ae7 mU) this))
  ·exact R.hi p A
 ·rw [agL,ahi,r,Q,R.len]
theorem zX (h:a+1+b<=890):a<recursionLimit:=af7 (aev (afY _) (aev (aeR _ _) h)) (by decide)
theorem mu (h:a+m*(n+1)<=l) (k:Nat) (hk:k<=m):a+k+m*n<=l:=aev (by rw[Nat.mul_succ,Nat.add_assoc,Nat.add_comm k];exact agA (agA hk _) _) h
theorem vM{α:Type}{l r:List α}(h:l.length=n)(j:Nat):(l++r)[n+j]?=r[j]?:=by
 subst h;rw[agU (aeR _ _),agy]
theorem ES{l:List Env}{L b:aep}(a:env.frame=some L):b∈(env::l).filterMap (·.frame)↔b=L\/b∈l.filterMap (·.frame):=by
 rw[List.filterMap_cons_some a,aeq]
theorem Ej (r:u.frames=some (c'.bF::c'.outer)) (j:c'.bF.frame=some c'.L) (x:XR c' C e X h Z v) {Q:Unit->aeg->Prop}{w:aec->aeg->Prop}
  (k:∀ a B G m h',e=.ref a->c'.base.StaysIn B->Fr c'.h₀ c'.L G m->(∀ b o,G.get? b=some o->b∉pg c'->B.get? b=some o)->(∀ q∈v++c'.ax,B.get? q.1=some q.2/\c'.h₀.get? q.1=none/\q.1≠c'.L)->G.UpToSlots h'->
   B.StaysIn h'->B.get? a=none->h'.FunFrames B c'.outer->(∃ a0,h'.TracedW B a (.ref C) a0)->Q () {h with heap:=h'}):WP W u (leaving c'.bF e) Q w h:=by
 obtain ⟨hg,nu,a,B,G,m,rfl,y,z,h3,D,E,F,n,i,p,H⟩:=x;have fin:∀ {a0 h'},B.StaysIn h'->h'.FunFrames B (c'.bF::c'.outer)->h'.TracedW B a (.ref C) a0->h.heap.UpToSlots h'->Q () {h with heap:=h'}:=λd A c f=>by
  refine bU A ?_;clear A;intro I I M;exact k a B G m _ rfl y z D E (F.trans f) d i M ⟨_,c⟩
 rcases H with ⟨oe,vs,a0,N,P,R,S,T⟩|⟨a0,fl,t,rfl|rfl⟩
 ·refine wpAny_leaving_firstW r p j N n i R T S λh' g=>?_
  refine j4 g ?_;clear g;intro d A c f;rw[P]at c;exact fin d A c f
 ·refine wpAny_leaving_nextW r p j t n i λh' g=>?_
  refine j4 g ?_;clear g;intro d A c f;exact fin d A c f
 ·unfold leaving;refine aeb (wpAny_noteFrame_againW j t ?_);refine wpAny_landsW (base:=B) (l:=c'.bF::c'.outer) (L:=c'.L) (cls:=.ref C) (a0:=a0) (j5 n i p t) λh' s f=>?_
  refine j4 s ?_;clear s;intro d A c V;exact fin d c V f
theorem vN{d':Nat}{call:Call}(qC:dv W d' call) (b:ak c) (hf:A.frames=some (c.bF::c.outer)) (hd:A.depth+1+16*d'<=890) (hu:A.units+3+80*d'<=9000) (hh:A.handled=none)
  (H:tK W a fd qual dC) (L:k7 W fd E) (hdp:aeS fd.dh=true) (R:SR c σ s α N) (hv:ah W.kt α N vals args) (M:aeS args=true){k:Kv}{y:Rs}
  (h:jq E call args σ k=y) (D:y≠.no){Er:aec->aeg->Prop}(hE:jn c y σ α N Er)
  {P:aif->aeg->Prop}(kQ:∀ v av i x z j,k av i=y->SR c i x z j->bh σ α N i z j->VR W.kt z j v av->P (.ok (.ret v)) x) (kE:∀ e x,Er e x->P (.error e) x):
  agb (aeI W.prog W.w) A (.call (.ref a) ⟨vals,[]⟩) P s:=by
 refine Y (aR (show aD .no (fill E args) (λa=>aN .no (roomF E σ) (E.body call (enter E a σ) (λi=>k .none (back σ i)) (λv i=>k v (back σ i))))=y from h) D) λaa Hg h1=>?_
 refine ae (aS h1 D) ?_;clear h1;intro Cz h
 have iG:=Sg R.bD Cz
 refine ae (QM L Hg) ?_;clear Hg;intro yq hlen
 obtain ⟨name,params,dV,kV,doc,pm,ct,oc,an,od,kl,Q,mv⟩:=H.at_
 refine Y (mv vals args _ α N hv M yq) ?_;clear mv hv;intro binds S CA
 refine Y R.fr λm qe hm=>?_
 have nv:=zX hd
 have hl:(binds.all λy=>fd.scope.names.lookup y.1 ==some .local ||fd.scope.names.lookup y.1 ==some .cell)=true:=aeB.mpr λy D=>by
  have:y.1∈(fd.params.zip aa).map (·.1):=S.names▸aew D
  refine Y (aeG.mp this) ?_;clear this;intro p M e
  rcases H.loc _ (e▸PG yq p M) with q|q<;>rw[q]<;>rfl
 refine callX_cells b.below qe R.news b.lim hf b.frame b.kY (R.aZ _ _ Q) rfl (codeRec_of R.aZ H.code) nv (CA s R.aZ) (kindsX hl) H.cell (λg B h₁ tk cells G T j qa B' st bN=>?_) H.co H.gen H.kind
 let n:Cx W:=⟨A,c.base,c.bF::c.outer,g,B,envOfC qual fd.scope B a dC,envOfC qual fd.scope B a dC,none,c.ax⟩
 have iT:ak n:=⟨b.g,b.aZ.keeps st,b.lim.keeps st,B',H.kind,H.kind,rfl,rfl,rfl,rfl,by refine gH b.top λp l mg mb qf=>?_;exact (nU p l mg mb (qf.keeps st)),H.cV,b.kZ,b.lr,b.mT,λC=>rfl,(λC C e=>nomatch e),b.nk⟩
 have yr:aP n d' (A.deeper n.env):=⟨by show A.frames.map _=_;rw[hf];rfl,hd,hu,hh⟩
 have mU:afS<B:=aej (aiV (b.lim.keeps st)) T.above
 refine Y (Sj (c':=n) L iT rfl R (L':=B) rfl rfl hlen (aei iG) S (t:=tk) T rfl j qa bN mU) ?_;clear hlen iG S T qa bN mU;intro cK R' I
 have leave:∀ {o:LS}{r:aeg}{u w}{V:aif->aeg->Prop}{v},SR n o r u w->Sts σ α N o u w->(SR c (back σ o) r u w->bh σ α N (back σ o) u w->V (.ok (.ret v)) r)->LeaveK c.h₀ c.L m g V v r:=by
  intro o r u w V v d f k
  refine Y d.fr λm₂ q9 oq=>?_
  exact leaveK_ q9 d.news λjr fY=>k ⟨(ay m jr (hm.mono f.ge)),R.aK.mono f.ge,fY,d.nodup,d.inj,d.obj,d.all,d.hi,d.wf,d.bD,d.len,d.low,(λqg h=>d.bt qg (f.mark▸h)),d.gens,d.os,d.aZ⟩ ⟨⟨f.ge,f.lo,f.same,f.n,rfl,f.obs,f.bf⟩,rfl⟩
 have body:=L.body call d' qC n _ iT yr rfl rfl H.cd
 refine body _ _ _ y h D _ cK _ _ R' (λqh e i x z j q kp qb=>?_) _ (λo r u w hk d f=>?_) λav o v r u w hk d f pj=>?_
 ·have uD:Kp σ α N (back σ i) z j:=⟨(I.kp.trans kp).ge,rfl,(I.kp.trans kp).bf⟩
  obtain ⟨hg,nu,_⟩:=id qb
  refine Ej yr.frames rfl qb λBs qi qk m₁ h' ea b1 X b3 b4 b5 b6 b7 b8 b9=>kE _ _ (hE qh e (back σ i) _ z j q uD rfl ⟨hg,nu,Bs,qi,g,m,ea,b1,G,hm.mono uD.ge,λqc qd Z q2=>b3 qc qd (X.keep qc qd Z) λF=>?_,λq hq=>?_,(agz X.keep).trans b5,b6,b7,b8,.inr ?_⟩)
  ·rcases (ES (l:=c.bF::c.outer) (show n.bF.frame=some B from rfl)).mp F with F|F
   ·rw[F,kts_self X]at Z;exact aT Z
   ·exact q2 F
  ·refine bU (b4 q hq) ?_;clear b4 hq;intro z1 z2 z3
   refine (bH z1 (kts_none G.keep z2) (λqj=>?_))
   refine kU G.ns ?_;clear G;intro C C C Q C
   have uE:g.get? q.1=none:=z2
   rw[qj,Q]at uE
   exact nj uE
  ·refine aL b9 ?_;clear b9;intro a0 t
   exact (gJ a0 .none t.at (.inl rfl))
 ·exact leave d (I.trans f) λbW dK=>kQ _ _ _ _ _ _ hk bW dK .none
 ·exact leave d (I.trans f) λbW dK=>kQ _ _ _ _ _ _ hk bW dK pj
theorem SR.inst (R:SR c σ s α N) (G:ak c) {m:Str->Option aec} (k:NR c σ.loc α N m) (y:Fr c.h₀ c.L h' m)
  (H:agD c.h₀ c.L h' ((x,ahp C f)::(f,afP [] 0)::(N++c.ax))) (r:∀ p∈N++c.ax,p.1<f) (l:f<x) (z:afS<f) (B:σ.n+2<=1024):
  SR c ((σ.push .own).push (.obj C [])) {s with heap:=h',toks:=t} (α++[f,x]) ((x,ahp C f)::(f,afP [] 0)::N)/\bh σ α N ((σ.push .own).push (.obj C [])) (α++[f,x]) ((x,ahp C f)::(f,afP [] 0)::N):=by
 have W:∀ p∈N,p.1<f:=λp A=>r p (aef _ A)
 have I:f∉(N++c.ax).map (·.1):=λk=>by
  refine Y (aeG.mp k) λp A e=>?_
  exact afx _ (e▸r p A)
 have L:x∉(N++c.ax).map (·.1):=λk=>by
  refine Y (aeG.mp k) λp A e=>?_
  exact afx _ (agk l (e▸r p A))
 have D:f∉N.map (·.1):=λk=>by
  refine Y (aeG.mp k) λp A e=>?_
  exact afx _ (e▸W p A)
 have E:x∉N.map (·.1):=λk=>by
  refine Y (aeG.mp k) λp A e=>?_
  exact afx _ (agk l (e▸W p A))
 have g:Ge α N (α++[f,x]) ((x,ahp C f)::(f,afP [] 0)::N):=⟨ahU _ _,λd h d=>.tail _ (.tail _ h),λa h=>by
  rcases aeH.mp h with h|h
  ·exact .inl h
  ·right
   rcases aeq.mp h with rfl|h
   ·exact D
   ·rw [ael.mp h];exact E,λd M h=>⟨M,.tail _ (.tail _ h)⟩⟩
 have u:∀ i,i<σ.n+2->((σ.push .own).push (.obj C [])).st.get i=if i<σ.n then σ.st.get i else [AO.own,.obj C []][i-σ.n]?:=(y9 [.own,.obj C []] σ R.wf B).get
 have st:bh σ α N ((σ.push .own).push (.obj C [])) (α++[f,x]) ((x,ahp C f)::(f,afP [] 0)::N):=⟨⟨g,aeu _,λi hi=>by
  have du:i<σ.n:=aej hi R.low
  rw [u i (aej du (aeR _ _)),if_pos du],aeR σ.n 2,rfl,λd d d d d h d=>.tail _ (.tail _ h),λi hi=>⟨by
  have du:i<σ.n:=R.bt i hi
  rw [u i (aej du (aeR _ _)),if_pos du],λd d d h=>.tail _ (.tail _ h)⟩⟩,rfl⟩
 have n:=R.len
 refine ⟨⟨(ay m y (k.mono g)),R.aK.mono g,H,?_,?_,λi v hi e=>?_,?_,?_,R.wf.set.set,B,?_,aev R.low (aeR σ.n 2),(λi h=>aej (R.bt i h) (aeR σ.n 2)),R.gens,R.os,G.aZ.keeps y.keep⟩,st⟩
 ·rw [ag4,ag4,aeL,aeL]
  refine aeU.mpr ⟨λq=>?_,aeU.mpr ⟨I,R.nodup⟩⟩
  rcases aeq.mp q with q|q
  ·exact agl l q
  ·exact L q
 ·refine aeY.mpr (bH R.inj ?_ (λa F b o=>?_))
  ·refine aeU.mpr ⟨?_,ae5 _ _⟩
   rw [ael];exact aeE l
  ·rintro rfl
   rcases aeq.mp o with rfl|o
   ·exact D (R.all _ F)
   ·rw [ael] at o;subst o;exact E (R.all _ F)
 ·have hi:i<σ.n+2:=hi
  rw [u i hi] at e
  by_cases q:i<σ.n
  ·rw [if_pos q] at e
   refine aH (R.obj i v q e) λa b W l P=>?_
   exact (bB a b (g.at W) (.tail _ (.tail _ l)) (P.mono g λd d d d h d=>.tail _ (.tail _ h)))
  ·rw [if_neg q] at e
   refine aL (Nat.exists_eq_add_of_le (afk.mp q)) ?_;clear q;intro j w;subst w
   rw [agy] at e
   induction j using aez with
   |zero=>
    have w:=aea e;subst v
    exact ⟨f,_,vM n 0,.tail _ (.head _),.own⟩
   |succ j=>induction j using aez with
    |zero=>
     have w:=aea e;subst v
     exact ⟨x,_,vM n 1,.head _,.obj rfl (vM n 0) (.tail _ (.head _)) .nil⟩
    |succ j=>exact aT e
 ·intro a h
  rw [aeL,aeL]
  rcases aeH.mp h with h|h
  ·exact .tail _ (.tail _ (R.all a h))
  ·rcases aeq.mp h with rfl|h
   ·exact .tail _ (.head _)
   ·rw [ael.mp h];exact .head _
 ·intro p A
  rcases aeq.mp A with rfl|A
  ·exact beq_eq_false_iff_ne.mpr (agl (agk z l))
  ·rcases aeq.mp A with rfl|A
   ·exact beq_eq_false_iff_ne.mpr (agl z)
   ·exact R.hi p A
 ·show (α++[f,x]).length=σ.n+1+1
  rw [agL,n];rfl
theorem QN {prog:ae0}{w:afh}{A:aeX}{E:aec->aeg->Prop}{m:Str->Option aec}{K:afM}{Q:aec->aeg->Prop}{pos:List aec}{b:List (Str×aec)}{f:aep}(F:Fr a L s.heap m) (j:K.In a) (N:agD a L s.heap k) (l:makesIn K C=true) (n:agj K (.ref C) "__init__" =some (some (.ref f))) (o:isFn K (.ref f)=true) (h:∀ h',Fr a L h' m->agD a L h' ((s.heap.objs.size+1,ahp C s.heap.objs.size)::(s.heap.objs.size,afP [] 0)::k)->  agb (aeI prog w) (A.under (.builtin "type.__call__" ⟨.ref C::pos,b⟩)) (.call (.ref f) ⟨.ref (s.heap.objs.size+1)::pos,b⟩) (InitBack (s.heap.objs.size+1) λr i=>match r with|.ok (.ret v)=>Q v i|.ok p=>False|.error e=>E e i) {s with heap:=h'}): aeF (aeI prog w) A (afc (.ref C) pos b) Q E s:=by
 refine agI ?_;have X:=j.keeps F.keep;obtain ⟨c,g,d,t,os⟩:=s;refine make_core (makes_of X l) (ajo X n) (λself=>bind_fn X self (beq_iff_eq.mp o)) (.inl rfl) (h _ ((F.push _).push _) ?_)
 have:=(N.push F emptyDict).push (F.push _) (ahp C c.objs.size);rwa [af0] at this
theorem Ek(x:Args):(afU "type.__call__" x).weight<=4:=by
 have c:(afU "type.__call__" x).isGuard=false:=by kernel_rfl
 have d:(afU "type.__call__" x).isCaller=false:=by kernel_rfl
 have A:(afU "type.__call__" x).frames=0:=by kernel_rfl
 unfold Code.weight;rw[c,d,A];split<;>simp
theorem Sk (x:Args):(afU "type.__call__" x).cUnits<=16:=by
 have:(afU "type.__call__" x).cUnits=1:=by kernel_rfl
 exact aev (af8 this) (by decide)
theorem Uu(x:Args):(afU "type.__call__" x).envs=[]:=by kernel_rfl
noncomputable abbrev Tab:=aep->Option aM
noncomputable abbrev rA:=aep->Option aep
structure mw(W:Wd)(T:Tab)(I:rA):Prop where
 fn:∀ a E,T a=some E->∃ fd,W.G.fn a=some fd/\k7 W fd E/\aeS fd.dh=true
 init:∀ a f,I a=some f->W.G.init a=some f
noncomputable def AM (T:Tab) (I:rA) (call:Call) (a:aep) (args:List O):Ev:=λc k=>aeT (aD .no (I a) λf=>aD .no (T f) λE=>aN .no (aeQ (ahK c.n (nat_lit 2)) bD) (jq E call (.ref (afb c.n)::args) ((c.push .own).push (.obj a [])) λv d=>j1 .no v (k (.ref (afb c.n)) d))) (λE=>jq E call args c k) (T a)
theorem Sl{T:Tab}{I:rA}(HT:mw W T I){call:Call}(C:dv W d call) (b:ak c) (f:aP c (d+1) A){k y}(h:AM T I call a args σ k=y) (i:y≠.no){s:aeg}{α N E}(R:SR c σ s α N) (D:jn c y σ α N E){vals:List aec}(j:ah W.kt α N vals args) (m:aeS args=true)
  {Q:aec->aeg->Prop}(G:fZ c y σ α N k Q):WP W A (afc (.ref a) vals) Q E s:=by
 have X:=mu f.depth 1 (by decide)
 have Z:=mu f.units 3 (by decide)
 unfold AM at h;induction l:T a using aer with
 |some EE=>
  rw [l] at h;refine cJ (HT.fn _ _ l) λfd n o q=>?_
  refine eY (b.g.fn _ _ n) λqual dC H=>?_
  exact agI (vN C b f.frames X Z f.handled H o q R j m h i D (λv av bu r bG u e w g j=>G _ _ _ _ _ _ e w g j) λe r x=>x)
 |none=>
  rw [l] at h;refine Y (aR h i) λqa hI h3=>?_
  refine Y (aR h3 i) λEE l h4=>?_
  refine ae (aS h4 i) λz h5=>?_
  have z:σ.n+2<=1024:=aei z;refine cJ (HT.fn _ _ l) λfd n o q=>?_
  refine eY (b.g.fn _ _ n) λqual dC H=>?_
  refine bU (b.g.init _ _ (HT.init _ _ hI)) λp1 p2 p3=>?_
  refine Y R.fr λqb F hm=>?_
  have abm:=b.lim.keeps F.keep;refine QN F b.aZ R.news p1 p2 p3 λh' F' u=>?_
  have l1:∀ p∈N++c.ax,p.1<s.heap.objs.size:=λp m=>aeJ (R.news p m).1
  refine ae (R.inst b (t:=s.toks) hm F' u l1 (agp _) (aiV abm) z) λw g=>?_
  have B:VR W.kt (α++[s.heap.objs.size,s.heap.objs.size+1]) ((s.heap.objs.size+1,ahp a s.heap.objs.size)::(s.heap.objs.size,afP [] 0)::N) (.ref (s.heap.objs.size+1)) (.ref (σ.n+1)):=.ref (vM R.len 1);have L:(afU "type.__call__" ⟨.ref a::vals,[]⟩).weight<=4:=Ek _;have M:(afU "type.__call__" ⟨.ref a::vals,[]⟩).cUnits<=16:=Sk _;have P:(afU "type.__call__" ⟨.ref a::vals,[]⟩).envs=[]:=Uu _;generalize afU "type.__call__" ⟨.ref a::vals,[]⟩=S at L M P;have lN:aeS (.ref (afb σ.n)::args)=true:=vJ B m;refine vN C b (A:=A.under S) ?_ ?_ ?_ f.handled H o q w (.cons B (j.mono g.ge)) lN h5 i (D.step g.kp rfl) (λv av bu r bG u e cA V j=>?_) λe r x=>x
  ·show pushEnvs S.envs A.frames=_;rw [P];exact f.frames
  ·exact aev (agZ (agZ (agA L _) 1) _) (mu f.depth 5 (by decide))
  ·exact aev (agZ (agZ (agA M _) 3) _) (mu f.units 19 (by decide))
  ·refine ae (nK e i) ?_;clear e i;intro bj e;subst bj;obtain rfl:v=.none:=j.inv;exact⟨rfl,G _ _ _ _ _ _ e cA (g.trans V) (B.mono V.ge)⟩
noncomputable def qp(e:aeD):Bool:=match e with
 |.Slice ..=>false
 |_=>true
theorem vu (h:qp a=true)(o i:aec):subscripted a false o i=operate [o,i] (getItem o i):=by
 induction a using afB<;>first|rfl|exact aX h
theorem zH (R:SR c σ s α N) (f:eD σ.st a=some l) (h:VR W.kt α N v a):∃ x vs n,v=.ref x/\s.heap.get? x=some (aex vs.toArray n)/\ah W.kt α N vs l:=by
 rcases V1 (Fv f) with rfl|⟨i,rfl,A⟩
 ·refine gC h.inv ?_;intro x vs n d g k r;subst d;exact (dx _ _ _ rfl (R.get g) r)
 ·refine eI (R.at A h) ?_;clear A h;intro x b d m j e;subst d;refine be e.inv ?_;clear e;intro vs n d r;subst d;exact (dx _ _ _ rfl (R.get j) r)
theorem jS (R:SR c σ s α N) (b:eD σ.st a=some l) (h:VR W.kt α N v a):∃ x vs,v=.ref x/\s.heap.IsList x vs.toArray/\ah W.kt α N vs l:=by
 refine cg (zH R b h) ?_;clear R b h;intro x vs n e d r;exact (bB x vs e (fC _ d rfl _ rfl) r)
noncomputable def ra (l:List O):Nat->Option O:=aeC (motive:=λc=>Nat->Option O) (λc=>none) (λa c d n=>et a (λc c=>none) (afX (some a) (λm c=>d m) n)) l
theorem El (h:a.sure=true):ra (a::l) n=afX (some a) (λm b=>ra l m) n:=by
 rcases fD a with⟨c,v,rfl⟩|d
 ·exact aX h
 ·exact d _ _
theorem Uv (h:ah T α N vs l):∀ {n a},ra l n=some a->∃ v,vs[n]?=some v/\VR T α N v a:=ah.ind (P:=λvs l=>∀ {n a},ra l n=some a->∃ v,vs[n]?=some v/\VR T α N v a)
 (λh=>nomatch h) (fun{v W vs b}d _ A n a h=>by rw[El (i6 d)]at h;induction n using aez with
  |zero=>have e:=aea h;subst a;exact⟨_,rfl,d⟩
  |succ n=>exact A (n:=n) h) (λc c c c c c h=>nomatch h) (λc c c c c h=>nomatch h) h
noncomputable def nZ (l:List O) (j:Int):Option O:=afw (motive:=λc=>Option O) j (λn=>dN (aeQ n (nat_lit 1000)) (ra l n)) λm=>dN (and (aem m (nat_lit 0)) (aeS l)) (nr l (agf l.length))
noncomputable def wk (j:Int):Bool:=afw (motive:=λc=>Bool) j (λn=>aem n (nat_lit 1)) λc=>false
noncomputable def Bt (st:Tr) (a:O) (j:Int):Option O:=Vw.casesOn (vw st a) (λc=>none) (λl=>nZ l j) (λl=>nZ l j) (λf c=>dN (and (aem f (nat_lit 0)) (wk j)) (some (.int 0))) none
noncomputable def xk (st:Tr) (a i:O):Option O:=dR (aD none (iF st a) λc=>afD none i λx=>bw x c) i (Bt st a)
theorem Uw{n m:Nat}(h:n<m):ai0 (n:Int) m=some n:=by
 unfold ai0;have c:¬ ((n:Int)<0):=by omega
 rw[if_neg c,if_pos (ad9.mpr ⟨decide_eq_true (by omega),decide_eq_true (by omega)⟩)]
 rfl
theorem Sm (h:0<m):ai0 (-1) m=some (m-1):=by
 unfold ai0;show (if (decide (0<=(-1:Int)+m)&&decide ((-1:Int)+m<m))=true then some ((-1:Int)+m).toNat else none)=_;rw[if_pos (ad9.mpr ⟨decide_eq_true (by omega),decide_eq_true (by omega)⟩)]
 exact congrArg some (by omega)
theorem Em (r:ah T α N vs l){a}(h:nZ l j=some a):∃ v n,vs[n]?=some v/\VR T α N v a/\ai0 j vs.length=some n/\-(2^63)<=j/\j<2^63/\(0<=j->n=j.toNat)/\(j<0->-(vs.length:Int)<=j/\n=(j+vs.length).toNat):=by
 induction j using afw with
 |ofNat n=>
  refine ae (fR h) ?_;clear h;intro c h;have c:n<=1000:=aei c;refine Y (Uv r h) λv e q=>?_
  exact⟨v,n,e,q,Uw (aeV.mp e).1,by show _<=(n:Int);omega,by show (n:Int)<_;omega,λf=>rfl,λq=>absurd q (by show ¬ ((n:Int)<0);omega)⟩
 |negSucc m=>
  refine ae (fR h) ?_;clear h;intro c d;refine ae (ad9.mp c) ?_;clear c;intro W p;obtain rfl:=aed W;rw[sI]at d;refine Y (r.at p _ _ d) λv e q=>?_
  have b:=r.len p;have A:l.length-1<l.length:=(aeV.mp d).1;have A:0<vs.length:=by omega
  exact (PW v (vs.length-1) (b▸e) q (Sm A) (by decide) (by decide) (λq=>absurd q (by decide)) (λq=>⟨by show _<=(-1:Int);omega,by show _=((-1:Int)+_).toNat;omega⟩))
theorem Wb (hc:ak c) (R:SR c σ s α N) (b:VR W.kt α N o a) (M:VR W.kt α N vi i) (h:xk σ.st a i=some v)
  (C:qp D=true) {Q:aec->aeg->Prop}(k:∀ val t,VR W.kt α N val v->Q val {s with toks:=t}):WP W A (ahG P D o vi) Q E s:=by
 have tup:∀ {l:List O}{d p},VR W.kt α N o (.tup l)->nZ l d=some v->WP W A (ahG P D o (.int d p)) Q E s:=λb h=>by
  refine aH (eX R b) ?_;intro g vs y m r;subst y;refine D5 (Em r h) λval n e q S F G u u=>?_
  exact aiQ m.typeIs ai1.lookup (getItem_tuple m F G (j:=n) (ae9▸S) (afo.trans e) (k _ s.toks q)) (vu C _ _)
 by_cases T:some v=aD none (iF σ.st a) λV=>afD none i λg=>bw g V
 ·refine Y (aR T.symm aO) λV hd h=>?_
  refine kG R b hd aO λg es' kvs lo X ny e=>?_
  obtain rfl:=aea e;refine gE M h aO λZ p u ok h=>?_
  rcases ny.find (x:=Z) with⟨qa,val,H,I,B⟩|⟨H,_⟩
  ·have y:=aea (h.symm.trans H);subst qa;exact aiQ X.typeIs slot_dict_getitem.lookup (wpAny_getItem_of (agY W.prog W.w Z p) X.mapOf I (k _ _ B)) (vu C _ _)
  ·cases h.symm.trans H
 ·refine i3 M h T λd p u h=>?_
  have go:∀ w,vw σ.st a=w->(Vw.casesOn w (λu=>none) (λl=>nZ l d) (λl=>nZ l d) (λf u=>dN (and (aem f (nat_lit 0)) (wk d)) (some (.int 0))) none:Option O)=some v->WP W A (ahG P D o (.int d p)) Q E s:=λw L h=>by
   induction w using Vw.casesOn with
   |tup l=>exact tup (Ak L▸b) h
   |lst l=>
    refine aH (jS R (by unfold eD;rw[L]) b) ?_;clear R;intro g vs y m r;subst y
    refine D5 (Em r h) λval n e q S F G e4 e5=>?_
    refine aiQ m.typeIs slot_list_getitem.lookup ?_ (vu C _ _);by_cases z:0<=d
    ·exact wpAny_getItem_list m z G (afo.trans (e4 z▸e)) (k _ s.toks q)
    ·refine ae (e5 (by omega)) λz1 z2=>?_
     exact wpAny_getItem_list_neg m (by omega) (ae9▸z1) F (afo.trans (ae9▸z2▸e)) (k _ s.toks q)
   |tok f kk=>
    refine ae (fR h) λhq h=>?_
    obtain rfl:=aea h;refine ae (ad9.mp hq) λI B=>?_
    obtain rfl:=aed I;refine be (hc.g.M5 kk) λg rr e hx=>?_
    have b:VR W.kt α N o (.tup (g::.int 0::rr)):=e▸(Gn L▸b).inv;induction d using afw with
    |ofNat n=>
     obtain rfl:=aed B;exact tup b (show ra (g::.int 0::rr) 1=_ by rw[El hx];rfl)
    |negSucc=>exact aX B
   |_=>exact aT h
  exact go _ rfl h
noncomputable def af (o i:Ev):Ev:=λc k=>o c λa c=>i c λb c=>aD .no (xk c.st a b) λv=>k v c
theorem FL (j:ak c) (l:qp i=true) (m:aE c A o n) (p:aE c A i r):aE c A (.Subscript o i pos) (af n r):=by
 intro u k y h d s w N E R W Q x;refine Subscript_ (m u _ y h d s w N E R W _ λa F G H I L h z e B=>?_)
 refine p _ _ _ h d _ _ _ _ z (W.step e.kp) _ λb M P S T V h f g C=>?_
 refine Y (aR h d) ?_;clear h d;intro v D h;exact Wb j f (B.mono g.ge) C D l λval t q=>x _ _ _ _ _ _ h f.toks (e.trans g) q
noncomputable def Cx.with(c:Cx W)(M:Led):Cx W:={c with ax:=M}
theorem ak.with (h:ak c) (k:∀ p∈c.ax,p∈M):ak (c.with M):=⟨h.g,h.aZ,h.lim,h.below,h.kind,h.kY,h.frame,h.iE,h.qA,h.locs,h.top,h.cV,h.kZ,h.lr,h.mT,h.uw,(λC d e=>(aL (h.cin C d e) λo A=>⟨o,k _ A⟩)),h.nk⟩
theorem aP.with (h:aP c d A) (M:Led):aP (c.with M) d A:=⟨h.frames,h.depth,h.units,h.handled⟩
theorem XR.less (b:c.comp=none) (f:∀ p∈c.ax,p∈M) (x:XR (c.with M) C e σ s α N):XR c C e σ s α N:=by
 obtain⟨d,h,a,B,G,m,i,j,k,A,l,n,o,r⟩:=x;refine⟨(j5 d.1 d.2.1 (λp g=>⟨(d.2.2.1 p g).1,λt=>(d.2.2.1 p g).2 ((Y (aeG.mp t) λq W e=>aeG.mpr (ay q (f q W) e)))⟩) d.2.2.2),h,a,B,G,m,i,j,k,?_,l,λq W=>n q ?_,o,r⟩
 ·unfold NR at A ⊢;have u:(c.with M).comp=none:=b;rw[u]at A;rw[b];exact A
 ·rcases aeH.mp W with q|q
  ·exact aef _ q
  ·exact aek _ (f _ q)
theorem bS.with (h:bS c y σ α N E) (a:c.comp=none) (b:∀ p∈c.ax,p∈M):bS (c.with M) y σ α N E:=λC e d A W f g i x=>h C e d A W f g i (x.less a b)
theorem NR.more (h:NR c loc α N m) (k:∀ p∈c.ax,p∈M):NR (c.with M) loc α N m:=by
 unfold NR at h ⊢
 show match c.comp with|none=>_|some (C,A)=>_
 split at h
 ·rename_i d;first|exact h|(rw[d];exact h)
 ·rename_i C A d
  first|rw[d]|skip
  refine kL h ?_;clear h;intro e o W a b f
  exact (nM e o W (k _ a) b f)
theorem En (h:p∈x::(N++M)):p∈N++x::M:=by
 rcases aeq.mp h with rfl|h
 ·exact aek _ (.head _)
 ·rcases aeH.mp h with h|h
  ·exact aef _ h
  ·exact aek _ (.tail _ h)
theorem pK{N M:Led}:((N++x::M).map (·.1)).Nodup↔((x::(N++M)).map (·.1)).Nodup:=by
 rw[aeO,aeL,aeL,aeO];exact List.perm_middle.nodup_iff
theorem SR.less{o:Obj}(g:ak c) (R:SR (c.with ((x,o)::c.ax)) σ s α N):∃ m,Fr c.h₀ c.L s.heap m/\NR c σ.loc α N m:=by
 refine Y R.fr λm F i=>?_
 refine (ay m F ?_);have d:match c.comp with
  |none=>ek W c.scope σ.loc α N m
  |some (C,b)=>m=b/\∃ A a,(C,A)∈(x,o)::c.ax/\ahe A a/\ek W c.scope σ.loc α N a:=i
 unfold NR;induction q:c.comp using aer with
 |none=>rw[q]at d;exact d
 |some p=>
  obtain⟨C,b⟩:=p;rw[q]at d;refine Gf d ?_;clear d;intro e A a h1 j;refine aL (g.cin C b q) ?_;clear g q;intro l k;refine (Ag e A a ?_ j);rcases aeq.mp h1 with h1|h1
  ·cases h1;have h:=pK.mp R.nodup;rw[aeL,aeU]at h;exact absurd (aew (f:=λp:aep×Obj=>p.1) (aek N k)) h.1
  ·exact h1
theorem SR.hide{o:Obj}(f:ak c) (R:SR (c.with ((x,o)::c.ax)) σ s α N):SR c σ s α ((x,o)::N)/\bh σ α N σ α ((x,o)::N):=by
 have g:Ge α N α ((x,o)::N):=⟨afA _,λd h d=>.tail _ h,λd h=>.inl h,λd j h=>⟨j,.tail _ h⟩⟩
 refine Y (R.less f) ?_;clear f;intro m F k;refine⟨⟨(ay m F (k.mono g)),R.aK.mono g,λp A=>R.news p (En A),pK.mp R.nodup,R.inj,λi o hi e=>?_,λa h=>ahy _ (R.all a h),λp A=>R.hi p (En A),R.wf,R.bD,R.len,R.low,R.bt,R.gens,R.os,R.aZ⟩,⟨⟨g,aeu _,λd d=>rfl,aeu _,rfl,λd d d d d h d=>.tail _ h,λd d=>⟨rfl,λd d d h=>.tail _ h⟩⟩,rfl⟩⟩
 refine aH (R.obj i o hi e) ?_;clear R hi e;intro a b l n q;refine (bB a b l (.tail _ n) ?_);exact OR.mono (W:=W) g (λd d d d h d=>.tail _ h) q
theorem SR.adopt{ao:AO}(j:ak c) (f:σ.room=true) (R:SR (c.with ((x,o)::c.ax)) σ s α N)
  (p:bh σ α N (σ.push ao) (α++[x]) ((x,o)::N)->OR W (α++[x]) ((x,o)::N) σ.n o ao):SR c (σ.push ao) s (α++[x]) ((x,o)::N)/\bh σ α N (σ.push ao) (α++[x]) ((x,o)::N):=by
 refine ae (R.hide j) λA d=>?_
 have k:=pK.mp R.nodup;rw[aeL,aeU]at k;have l:x∉N.map (·.1):=λh=>k.1 (by rw[aeO];exact aef _ h)
 have r:x∉α:=λh=>l (R.all x h)
 have g:Ge α N (α++[x]) ((x,o)::N):=⟨ahU _ _,λd h d=>.tail _ h,λa h=>by
  rcases aeH.mp h with h|h
  ·exact .inl h
  ·rw[ael.mp h];exact .inr l,λd t h=>⟨t,.tail _ h⟩⟩
 have st:bh σ α N (σ.push ao) (α++[x]) ((x,o)::N):=⟨⟨g,aeu _,λi hi=>by
  have du:i<σ.n:=aej hi R.low;rw[pT R f (ae7 du),if_neg (aeE du)],afY _,rfl,λd d d d d h d=>.tail _ h,λi hi=>⟨by
  have du:i<σ.n:=R.bt i hi;rw[pT R f (ae7 du),if_neg (aeE du)],λd d d h=>.tail _ h⟩⟩,rfl⟩
 refine Y (R.less j) ?_;clear j;intro m F u;refine⟨⟨(ay m F (u.mono g)),R.aK.mono g,A.news,A.nodup,?_,λi n hi e=>?_,?_,A.hi,R.wf.set,LS.vz f,?_,agX R.low,(λi h=>ae7 (R.bt i h)),R.gens,R.os,R.aZ⟩,st⟩
 ·refine aeY.mpr (bH R.inj (by simp) (λa v b w=>?_))
  rw[ael.mp w];rintro rfl;exact r v
 ·rw[pT R f hi]at e;by_cases q:i=σ.n
  ·rw[if_pos q]at e;have C:=aea e;clear e;subst n;subst q;exact (bB _ o (kD R.len) (.head _) (p st))
  ·rw[if_neg q]at e;refine aH (R.obj i n (aiZ (aib hi) q) e) ?_;clear hi q e;intro a b y z B;exact (bB a b (g.at y) (.tail _ z) (OR.mono (W:=W) g (λd d d d h d=>.tail _ h) B))
 ·intro a h;rw[aeL];rcases aeH.mp h with h|h
  ·exact .tail _ (R.all a h)
  ·rw[ael.mp h];exact .head _
 ·show (α++[_]).length=σ.n+1;rw[agL,R.len];rfl
theorem jc(p:α <+:b)(h:b[i]?=some a)(e:i<α.length):α[i]?=some a:=by
 refine aL p ?_;clear p;intro t c;subst c;rw[ahN e]at h;exact h
theorem vA{α:List aep}{a:aep}(h:α[i]?=some a):i<α.length:=(aeV.mp h).1
theorem gj.cut{sc α f b j g}(p:α <+:f) (h:gj sc α b j) (h₁:gj sc f b g):gj sc α b g:=λn i e=>by
 refine cg (h n i e) ?_;clear h;intro x k a q r c;refine cg (h₁ n i e) ?_;clear h₁ e;intro d A W l m o;exact (dx d A W l m (jc p o (vA c)))
theorem i7.sub (p:α <+:a) (h:i7 a N v q):i7 α N v q:=by
 refine pO h ?_;clear h;intro c d A t W b d3 d4;exact (pP c d A t W b (λq=>d3 (p.subset q)) d4)
theorem VR.cut{T α N w k}(p:α <+:w){D av}(h:VR T α N D av):∀ {v},VR T w k v av->VR T α k v av:=by
 have tup:∀ {l},(∀ j,ah T w k j l->ah T α k j l)->∀ v,VR T w k v (.tup l)->VR T α k v (.tup l):=λg v h=>by
  rcases h.inv with⟨a,o,j,n,rfl,A,W,y,E,m⟩|⟨a,j,n,V,rfl,A,m⟩
  ·exact .tup A (λq=>W (p.subset q)) y E (g _ m)
  ·exact .tupK A (g _ m)
 intro v;refine VR.rec (motive_1:=λc av c=>∀ v,VR T w k v av->VR T α k v av) (motive_2:=λc l c=>∀ j,ah T w k j l->ah T α k j l) ?_ ?_ ?_ ?_ (λc c c c c g=>tup g) (λc c g=>tup g) ?_ ?_ ?_ ?_ ?_ ?_ ?_ ?_ ?_ ?_ ?_ ?_ h v
 ·intro v h;rw[show v=.none from h.inv];exact .none
 ·intro b v h;rw[show v=.bool b from h.inv];exact .bool b
 ·intro i t v h;refine aL h.inv ?_;intro t f;subst f;exact .int _ _
 ·intro x t F v h;refine Y h.inv ?_;intro t f c;subst f;exact .str _ F
 ·intro _ _ _ _ _ _ _ g v h;refine gC h.inv ?_;intro a j n f A W m;subst f;exact .hl A (λq=>W (p.subset q)) (g _ m)
 ·intro a i e v h;refine Y h.inv ?_;intro X f s;subst f;exact .ref (jc p s (vA e))
 ·intro a v h;rw[show v=.ref a from h.inv];exact .glob a
 ·intro _ _ _ _ g v h;exact .ty (g _ h.inv)
 ·intro _ _ _ _ _ _ _ g v h;refine eI h.inv ?_;intro a u f A W m;subst f;exact .ck A (λq=>W (p.subset q)) (g _ m)
 ·intro _ _ _ _ _ _ _ e r v h;refine r8 h.inv ?_;intro a o d f A W s C;subst f;obtain rfl:=aea (e.symm.trans s);refine vk r ?_;clear r;intro Z c c c c c c c G;refine vk C ?_;clear C;intro H I L M b4 P Q R b8;exact .bY A (λq=>W (p.subset q)) e (rZ H I L M b4 P Q (R.sub p) (G.cut p b8))
 ·intro _ _ v h;exact .bR h.inv
 ·intro _ _ _ _ _ _ v h;refine eI h.inv ?_;intro a o f A W y;subst f;exact .fk A (λq=>W (p.subset q)) y
 ·intro j h;rw[h.nil_inv];exact .nil
 ·intro _ _ _ _ q _ z B j h;refine aH (h.cj (i6 q)) ?_;clear q;intro v S f A W;subst f;exact .cons (z _ A) (B _ W)
 ·intro _ _ _ _ _ e _ _ z B j h;rcases h.pZ with⟨_,v,S,rfl,A,W⟩|⟨s,_⟩
  ·exact .yes e (z _ A) (B _ W)
  ·cases e.symm.trans s
 ·intro _ _ _ _ e _ g j h;rcases h.pZ with⟨s,_⟩|⟨_,W⟩
  ·cases e.symm.trans s
  ·exact .no e (g _ W)
theorem ah.cut (p:α <+:g) (h:ah T α N k av):∀ {v},ah T g a v av->ah T α a v av:=ah.ind (P:=λW l=>∀ {c},ah T g a c l->ah T α a c l) (λh=>by rw[h.nil_inv];exact .nil)
 (λq W d c h=>by
  refine aH (h.cj (i6 q)) ?_;intro v i j b A;subst j;exact .cons (q.cut p b) (d A))
 (λe q W d c h=>by
  rcases h.pZ with⟨_,v,i,rfl,b,A⟩|⟨f,_⟩
  ·exact .yes e (q.cut p b) (d A)
  ·cases e.symm.trans f)
 (λe W d c h=>by
  rcases h.pZ with⟨f,_⟩|⟨_,A⟩
  ·cases e.symm.trans f
  ·exact .no e (d A)) h
theorem aU.cut (p:α <+:a) (h:aU T α N e av):∀ {v},aU T a b v av->aU T α b v av:=by
 induction h with
 |nil=>intro v h;rw[h.nil_inv];exact .nil
 |cons q f c=>intro v h;refine aH h.cj ?_;clear h;intro u g d A W;subst d;exact .cons (q.cut p A) (c W)
theorem bM.cut (p:α <+:a) (h:bM P T α N e av):∀ {v},bM P T a b v av->bM P T α b v av:=by
 induction h with
 |nil=>intro v h;rw[h.nil_inv];exact .nil
 |cons q f c=>intro v h;refine cg h.cj ?_;clear h;intro t u g d A W;subst d;exact .cons (q.cut p A) (c W)
theorem OR.cut (p:α <+:k) (l:i<α.length) (h:OR W α N i E o) (h₁:OR W k m i b o):OR W α m i b o:=by
 induction h using OR.casesOn with
 |list r=>refine be h₁.inv ?_;intro F n c A;subst c;exact .list (r.cut p A)
 |dict f r=>refine Y h₁.inv λG e A=>?_;exact .dict e (r.cut p A)
 |obj q H I r=> refine ir h₁.inv ?_;clear q;intro j d L n c g s v A;subst c;exact .obj g (jc p s (agk (g▸agp j) l)) v (r.cut p A)
 |own=>exact .own
 |cell f r=>refine Y h₁.inv λu e A=>?_;exact .cell e (r.cut p A)
 |mo=>exact .mo h₁.inv
 |src=>refine r9 h₁.inv ?_;intro a M t u n c w x;subst c;exact .src w x
 |any=>exact .any
 |tab y f P=>refine j0 h₁.inv ?_;clear h₁;intro Q c R z B;subst c;exact .tab y z λC D e=>(B C D e).sub p
theorem VR.low (p:α <+:m) (g:∀ q∈n,q.1∉m->q∈N) (o:∀ f k,Eng.below α.length (T.θ f k)=true) (h:VR T m n v av):Eng.below α.length av=true->VR T α N v av:=
 VR.rec (motive_1:=λv av c=>Eng.below α.length av=true->VR T α N v av) (motive_2:=λr l c=>belows α.length l=true->ah T α N r l) (λc=>.none) (λc c=>.bool _) (λc c c=>.int _ _) (λc s c=>.str _ s) (λA d i t c W b=>.tup (g _ A d) (λq=>d (p.subset q)) i t (W (pQ▸b))) (λA c W b=>.tupK A (W (pQ▸b))) (λA d c W b=>.hl (g _ A d) (λq=>d (p.subset q)) (W (zz▸b))) (λe b=>.ref (jc p e (aei b))) (λc c=>.glob _) (fun{_ f k}_ W _=>.ty (W (o f k))) (λA d c W b=>.ck (g _ A d) (λq=>d (p.subset q)) (W b)) (λc c c c b=>absurd b aeP) (λh c=>.bR h) (λA d i c=>.fk (g _ A d) (λq=>d (p.subset q)) i) (λc=>.nil) (λc c j a b=>.cons (j (ad9.mp b).1) (a (ad9.mp b).2)) (λe c c j a b=>.yes e (j (ad9.mp b).1) (a (ad9.mp b).2)) (λe c a b=>.no e (a (ad9.mp b).2)) h
theorem ah.low (p:α <+:a) (g:∀ q∈j,q.1∉a->q∈N) (i:∀ f k,Eng.below α.length (T.θ f k)=true) (h:ah T a j v av):belows α.length av=true->ah T α N v av:=
 ah.ind (P:=λA l=>belows α.length l=true->ah T α N A l) (λd=>.nil) (λq d c b=>.cons (q.low p g i (ad9.mp b).1) (c (ad9.mp b).2)) (λe q d c b=>.yes e (q.low p g i (ad9.mp b).1) (c (ad9.mp b).2)) (λe d c b=>.no e (c (ad9.mp b).2)) h
theorem SR.restore (R:SR c σ s α N) (f:SR c r H B l) (g:bh ⟨σ.loc,σ.aK,σ.st,σ.n,σ.n,σ.mark⟩ α N r B l) (t:σ.n<=r.lo):
  SR c σ H α l/\bh σ α N σ α l:=by
 have p:=g.ge.pre;have I:Ge α N α l:=⟨afA _,g.ge.keep,λA h=>.inl h,g.ge.tab⟩
 refine ⟨⟨?_,R.aK,f.news,f.nodup,R.inj,λi o hi e=>?_,λa h=>f.all a (p.subset h),f.hi,R.wf,R.bD,R.len,R.low,R.bt,f.gens,f.os,f.aZ⟩,⟨I,aeu _,λA A=>rfl,aeu _,rfl,λi a o hi=>g.obs i a o (aej (aej hi R.low) t),λi hi=>⟨rfl,(g.bf i hi).2⟩⟩,rfl⟩
 ·refine Y f.fr λm F d=>?_
  refine Y R.fr λC T j=>?_
  refine (ay m F ?_);rw[show r.loc=σ.loc from g.loc]at d;have D:∀ {m C},ek W c.scope σ.loc B l m->ek W c.scope σ.loc α N C->ek W c.scope σ.loc α l m:=λd j n v e=>by
   refine cg (d n v e) λx k val u w y=>?_
   refine cg (j n v e) λV X Z A A z=>?_
   exact (dx x k val u w (z.cut p y))
  unfold NR at d j ⊢;induction q:c.comp using aer with
  |none=>rw[q]at d j;exact D d j
  |some pr=>
   rw[q]at d j;refine kL d ?_;clear d;intro e o L u w y;refine kL j ?_;clear j;intro A A X2 A A z;exact (nM e o L u w (D y z))
 ·refine aH (R.obj i o hi e) λabn lu q1 q2 M=>?_
  have bN:i<σ.n:=hi;have E:r.st.get i=some o:=(g.same i (aej hi t)).trans e;have G:i<r.n:=aej (aej hi t) f.low;refine aH (f.obj i o G E) ?_;clear f G E;intro a b P Q S;have du:i<α.length:=by rw[R.len];exact hi
  exact (bB a b (jc p P du) Q (M.cut p du S))
noncomputable def fV (n:Nat) (v:O) (σ:LS):Rs:=jf (aN .no (below n v) (.ok v)) v λj=>aen (aD .no (σ.st.get j) λo=>gF .no o λl=>aN .no (belows n l) (.ok (.hl l))) (.ok v) (afl j n)
noncomputable def fW (n:Nat):Kv:=λv c=>aN .no (aeQ n c.lo) (fV n v c)
theorem ET (h:fV n v σ=y) (a:y≠.no):(below n v=true/\.ok v=y)\/∃ j l,v=.ref j/\afl j n=false/\σ.st.get j=some (.list l)/\belows n l=true/\.ok (.hl l)=y:=by
 by_cases A:y=aN .no (below n v) (.ok v)
 ·exact .inl (aS A.symm a)
 ·refine Y (i0 h A) ?_;clear h A;intro j W c;subst W;induction d:afl j n using aee with
  |true=>rw[d]at c;exact .inl ⟨d,c⟩
  |false=>
   rw[d]at c;refine Y (aR c a) λo b c=>?_
   refine Y (pJ c a) ?_;clear c;intro l W c;subst W;refine ae (aS c a) λe c=>?_
   exact .inr (vx j l rfl d b e c)
noncomputable def LS.calm (σ:LS):LS:=LS.rec (motive:=λd=>LS) (λl c t n lo m=>⟨l,c,t,n,n,m⟩) σ
theorem SR.calm(R:SR c σ s α N):SR c σ.calm s α N:=⟨R.fr,R.aK,R.news,R.nodup,R.inj,R.obj,R.all,R.hi,R.wf,R.bD,R.len,aeu _,R.bt,R.gens,R.os,R.aZ⟩
theorem sg (y:ak c) (R:SR c σ s α N) (z:SR c B V m a) (g:bh σ.calm α N B m a) (i:VR W.kt m a val v) (h:fV σ.n v B=.ok H):VR W.kt α a val H:=by
 have p:=g.ge.pre;have I:∀ {w val},VR W.kt m a val w->below σ.n w=true->VR W.kt α a val w:=λi d=>i.low p (λq o L=>o) (λf k=>y.g.Bk f k _) (by rw[R.len];exact d)
 rcases ET h nofun with ⟨d,e⟩|⟨j,l,rfl,M,C,d,e⟩
 ·cases e;exact I i d
 ·cases e;refine Y i.inv ?_;clear i;intro x u D;subst u;refine Y (z.of C D) ?_;clear C;intro b P E;refine be E.inv ?_;clear E;intro X n u r;subst u;refine .hl P (λF=>?_) (r.low p (λq o L=>o) (λf k=>y.g.Bk f k _) (R.len▸d))
  refine eY (List.mem_iff_getElem.mp F) ?_;clear F;intro G A Q;refine aL p ?_;clear p;intro t S;have T:m[G]?=α[G]?:=by rw[←S];exact ahN A
  obtain rfl:=hH z (T.trans (aeV.mpr ⟨A,Q⟩)) D;rw[R.len]at A
  cases M.symm.trans (aho A)
theorem QO(z:fV n v σ=.exc C):False:=by
 rcases ET z nofun with⟨_,e⟩|⟨_,_,_,_,_,_,e⟩<;>contradiction
noncomputable def xl (r:Rs)(σ:LS)(k:Kv):Rs:=Rs.casesOn r (λv=>k v σ) .exc .no
noncomputable def Hh (e:Ev):Ev:=λc k=>xl (e c.calm (fW c.n)) c k
theorem pure_run (p:ak c) (h:Hh e σ k=y) (j:y≠.no) (R:SR c σ s α N){E:aec->aeg->Prop}{Q:aec->aeg->Prop}(r:fZ c y σ α N k Q):
  ∃ b,e σ.calm (fW σ.n)=b/\b≠.no/\((bS c y σ α N E->bS c b σ.calm α N E)/\(jn c y σ α N E->jn c b σ.calm α N E))/\fZ c b σ.calm α N (fW σ.n) Q:=by
 have h:xl (e σ.calm (fW σ.n)) σ k=y:=h;refine (nT _ rfl (λq=>j (q▸h).symm) ⟨λm C n d A f W q g x=>m C n d A f W (q▸h).symm ⟨g.ge,g.mark,g.bf⟩ x,λm C n d A f W q g l x=>m C n d A f W (q▸h).symm ⟨g.ge,g.mark,g.bf⟩ l x⟩ (λa d v A f W q o g t=>?_))
 rw[←q]at h;have h:xl (aN .no (aeQ σ.n d.lo) (fV σ.n a d)) σ k=y:=h;induction i:aeQ σ.n d.lo using aee with
 |false=>rw[i]at h;exact absurd h.symm j
 |true=>
  rw[i]at h;have h:xl (fV σ.n a d) σ k=y:=h
  cases z:fV σ.n a d with
  |no=>rw[z]at h;exact absurd h.symm j
  |exc C=>exact (QO z).elim
  |ok u=>
   rw[z]at h;refine ae (R.restore o g (aei i)) ?_;clear i;intro w B;exact r u σ v A α W h w B (sg p R o g t z)
noncomputable def bc (call:Call):Call:=λf c=>Hh (call f c)
theorem EU (a:ak c){call:Call}(h:ja c A call):ja c A (bc call):=by
 intro f b u k y q d s v N e R g i j l m n Q W;refine j0 (pure_run a q d R (E:=e) W) ?_;clear a q d W;intro w o p r t;exact h f b _ _ _ o p _ _ _ _ R.calm (r.2 g) i j l m n _ t
theorem QP {E:aec->aeg->Prop}{Q:Unit->aeg->Prop}(x:B.StaysIn s.heap) (y:s.heap.FunFrames B l) (k:s.heap.TracedAtW B e cls a0 fl) (h:∀ h',B.StaysIn h'->h'.FunFrames B l->h'.TracedAtW B e cls a0 (ae6 L)->s.heap.UpToSlots h'->Q () {s with heap:=h'}):aeF M A (setFlight (.ref e) (some L)) Q E s:=by
 refine DL k ?_;clear k;intro z g T F m n C p r t u i W D;have v:3<m.size:=(agn.mp D).1;have a:∀ b,b≠T->(s.heap.update T (ahH (·.setIfInBounds 3 ((some L).elim agc λf=>ae6 f)))).get? b=s.heap.get? b:=λb c=>Heap.get?_update_other _ _ (Ne.symm c)
 have w:∀ b o,s.heap.get? b=some o->(∀ g,o.data≠.fields g)->b≠T:=λb o c d q=>by rw[q,i]at c;have G:=aea c;clear c;subst o;exact d m W
 unfold setFlight;refine aeb (ae3 n p r ?_);rw[if_pos (show (afi T !=agc)=true from by simp)]
 refine ag3 i W v (h _ (λb o j=>(a b λq=>by rw[q,t]at j;exact aT j).trans (x b o j)) (y.of_keeps λb o c d=>(ay o ((a b (w b o c d)).trans c) rfl)) ?_ λb o c d=>⟨o.slots,(a b (w b o c d)).trans c⟩)
 exact (O9 z g T _ _ ((a e (Ne.symm u)).trans n) C p r t u (af4 _ i (ahs (af9 W _))) (af9 W _) (by simp[v]))
theorem EV (I:ak c) (z:A.frames=some (c.bF::c.outer)) (x:XR c C e σ s α N) {Q:Unit->aeg->Prop} {E:aec->aeg->Prop}
  (k:∀ h' a B a0,e=.ref a->h'.TracedAtW B a (.ref C) a0 (ae6 c.L)->XR c C e σ {s with heap:=h'} α N->Q () {s with heap:=h'}):WP W A (noteFrame e c.bF) Q E s:=by
 obtain ⟨h,i,a,B,G,m,rfl,j,l,n,o,p,q,r,b,u,L⟩:=x;have g:=I.frame;rcases L with ⟨R,S,a0,D,M,F,P,H⟩|⟨a0,T,t,rfl|rfl⟩
 ·unfold noteFrame;simp only[g];refine aeb (ae3 D F H ?_);rw[if_neg (by decide)]
  refine wpAny_entryW z u g D r b F (agn.mp H).1 P λh' f=>?_
  refine j4 f ?_;clear f;intro v w d y;rw[M]at d;exact k h' a B a0 rfl d ⟨h,i,a,B,G,m,rfl,j,l,n,o,p,q.trans y,v,b,w,.inr (gJ a0 _ d (.inr rfl))⟩
 ·refine wpAny_noteFrame_onW z u g t r b λh' f=>?_
  refine j4 f ?_;clear f;intro v w d y;exact k h' a B a0 rfl d ⟨h,i,a,B,G,m,rfl,j,l,n,o,p,q.trans y,v,b,w,.inr (gJ a0 _ d (.inr rfl))⟩
 ·exact wpAny_noteFrame_againW g t (k s.heap a B a0 rfl t ⟨h,i,a,B,G,m,rfl,j,l,n,o,p,q,r,b,u,.inr (gJ a0 _ t (.inr rfl))⟩)
theorem Sn (b:ak c) (r:c.comp=none) (u:A.frames=some (c.bF::c.outer)) (x:XR c C e σ s α N) {E:aec->aeg->Prop}(k:∀ g,XR c C e σ g α N->E e g): aio (aeI W.prog W.w) A c.env (agJ (aeI W.prog W.w) A c.env E) e s:=by
 rw[b.uw r];refine EV b u x λh a B' d f t x=>?_
 subst f;obtain ⟨v,w,a',B,G,m,f,y,z,D,F,H,I,L,M,P,Q⟩:=x
 cases f
 unfold agJ;refine DL (id t) λR S T oT ts i tM j l hnT hTe hT hdT h3'=>?_
 refine aeb (ae3 i j l ?_);rw[if_neg (show ¬ ((afi T ==agc)=true) from by simp)]
 rw[b.frame];have go:∀ {d n},Heap.TracedAtW h B a (.ref C) d n->WP W A (setFlight (.ref a) (some c.L)) (λu_ V=>E (.ref a) V) E {s with heap:=h}:=λt=> QP L P t λh'' X Z k4 k5=>k _ ⟨v,w,a,B,G,m,rfl,y,z,D,F,H,I.trans k5,X,M,Z,.inr (gJ _ _ k4 (.inr rfl))⟩
 rcases Q with ⟨R,S,d,o,e2,p,e4,q⟩|⟨d,n,t',_⟩
 ·rw[i]at o;cases o;rw[j]at p;cases p;rw[l]at q;cases q
 ·exact go t'
theorem bS.loop (a:ak c) (b:c.comp=none) (f:aP c d A) (h:bS c y σ α N E):bS c y σ α N (aio (aeI W.prog W.w) A c.env (agJ (aeI W.prog W.w) A c.env E)):=
 λC e i o j k q g x=>Sn a b f.frames x λm n=>h C e i m j k q g n
theorem pU{N own M:Led}:((N++(own++M)).map (·.1)).Perm ((own++(N++M)).map (·.1)):=by
 apply List.Perm.map;rw[←afG,←afG];exact List.Perm.append_right _ List.perm_append_comm
theorem NR.Hi (h:NR c loc α N m) (own:Led):NR (c.with (own++c.ax)) loc α N m:=h.more λp d=>aek _ d
theorem P0{h:afd}{b:aep}(e:h.objs.size<=b):h.get? b=none:=by
 induction q:h.get? b using aer with
 |none=>rfl
 |some o=>exact absurd (aeJ q) (afk.mpr e)
theorem SR.own {σ:LS} {s:aeg} (R:SR c σ s α N) (h:ak c) {own:Led} {h':afd} {t:Nat} (hk:∀ b o,s.heap.get? b=some o->h'.get? b=some o)
  (f:∀ p∈own,h'.get? p.1=some p.2/\s.heap.objs.size<=p.1) (n:(own.map (·.1)).Nodup):SR (c.with (own++c.ax)) σ {s with heap:=h',toks:=t} α N:=by
 refine Y R.fr λm F r=>?_
 have i:Fr c.h₀ c.L h' m:=⟨F.ns.keeps hk,λb o e=>hk _ _ (F.keep b o e),F.above⟩
 refine⟨(ay m i (r.Hi own)),R.aK,λp d=>?_,?_,R.inj,R.obj,R.all,λp d=>?_,R.wf,R.bD,R.len,R.low,R.bt,R.gens,R.os,h.aZ.keeps i.keep⟩
 ·rcases aeH.mp d with d|d
  ·have:=R.news p (aef _ d);exact⟨hk _ _ this.1,this.2⟩
  ·rcases aeH.mp d with d|d
   ·refine ae (f p d) λA W=>?_
    exact (bH A (λe=>absurd F.ns.lt (afk.mpr (e▸W))) (kts_none F.keep (P0 W)))
   ·have:=R.news p (aek _ d);exact⟨hk _ _ this.1,this.2⟩
 ·refine pU.nodup_iff.mpr ?_;rw[aeO];refine aeY.mpr (bH n R.nodup (λa j b k e=>?_))
  refine Y (aeG.mp j) ?_;clear j;intro p d g;subst g;refine Y (aeG.mp k) ?_;clear k;intro q u g;subst g;have A:=aeJ (R.news q u).1;exact absurd A (afk.mpr (e▸(f p d).2))
 ·rcases aeH.mp d with d|d
  ·exact R.hi p (aef _ d)
  ·rcases aeH.mp d with d|d
   ·refine beq_eq_false_iff_ne.mpr λe=>?_
    have A:=aiV h.lim;have W:=F.above;have v:=F.ns.lt;have l:=(f p d).2;rw[e]at l;exact absurd (aej A W) (afk.mpr (agM (aej v l)))
   ·exact R.hi p (aek _ d)
theorem SR.drop{own:Led}(i:ak c) (R:SR (c.with (own++c.ax)) σ s α N):SR c σ s α N:=by
 have sub:∀ p∈N++c.ax,p∈N++(own++c.ax):=λp d=>by
  rcases aeH.mp d with d|d
  ·exact aef _ d
  ·exact aek _ (aek _ d)
 refine Y R.fr λm F j=>?_
 have g:=pU.nodup_iff.mp R.nodup;rw[aeO]at g;refine bU (aeY.mp g) ?_;clear g;intro r k l;refine⟨(ay m F ?_),R.aK,λp d=>R.news p (sub p d),k,R.inj,R.obj,R.all,λp d=>R.hi p (sub p d),R.wf,R.bD,R.len,R.low,R.bt,R.gens,R.os,R.aZ⟩
 have A:match c.comp with
  |none=>ek W c.scope σ.loc α N m
  |some (C,h)=>m=h/\∃ a b,(C,a)∈own++c.ax/\ahe a b/\ek W c.scope σ.loc α N b:=j
 unfold NR;induction q:c.comp using aer with
 |none=>rw[q]at A;exact A
 |some p=>
  obtain⟨C,h⟩:=p;rw[q]at A;refine Gf A ?_;clear A;intro e a b h1 n;refine aL (i.cin C h q) ?_;clear i q;intro t o;refine (Ag e a b ?_ n);rcases aeH.mp h1 with h1|h1
  ·exact absurd rfl (l C (aew (f:=λp:aep×Obj=>p.1) h1) C (aew (f:=λp:aep×Obj=>p.1) (aek N o)))
  ·exact h1
theorem SR.jh {σ:LS} {s:aeg} {own own':Led} (g:ak c) (R:SR (c.with (own++c.ax)) σ s α N) {h':afd} {t:Nat} (e:own'.map (·.1)=own.map (·.1)) (hk:∀ b o,b∉own.map (·.1)->s.heap.get? b=some o->h'.get? b=some o)
  (k:∀ p∈own',h'.get? p.1=some p.2):SR (c.with (own'++c.ax)) σ {s with heap:=h',toks:=t} α N:=by
 refine Y (R.drop g |>.fr) λm F l=>?_
 refine Y R.fr λv w x=>?_
 have h:=pU.nodup_iff.mp R.nodup;have a:=h;rw[aeO]at a;refine bU (aeY.mp a) ?_;clear a;intro y B n;have W:∀ p∈own,p∈N++(own++c.ax):=λp d=>aek _ (aef _ d)
 have r:∀ p∈N++c.ax,p.1∉own.map (·.1):=λp d q=>n _ q p.1 (aew d) rfl
 have u:c.L∉own.map (·.1):=λq=>by
  refine Y (aeG.mp q) λp d e=>?_
  exact (R.news p (W p d)).2.1 e
 have i:Fr c.h₀ c.L h' m:=⟨F.ns.at' λo q=>hk _ o u q,λb o q=>hk b o (λz=>by
  refine Y (aeG.mp z) ?_;clear z;intro p d e;have:c.h₀.get? p.1=none:=(R.news p (W p d)).2.2;rw[e,q]at this;exact nj this) (F.keep b o q),F.above⟩
 have sub:∀ p∈N++c.ax,p∈N++(own++c.ax):=λp d=>by
  rcases aeH.mp d with d|d
  ·exact aef _ d
  ·exact aek _ (aek _ d)
 have f:∀ p∈own',∃ q∈own,q.1=p.1:=λp d=>by
  have:p.1∈own'.map (·.1):=aew d;rw[e]at this;refine Y (aeG.mp this) λq A e=>?_
  exact (ay q A e)
 refine⟨(ay m i (l.Hi own')),R.aK,λp d=>?_,?_,R.inj,R.obj,R.all,λp d=>?_,R.wf,R.bD,R.len,R.low,R.bt,R.gens,R.os,g.aZ.keeps i.keep⟩
 ·have j:∀ p∈N++c.ax,h'.get? p.1=some p.2/\p.1≠c.L/\c.h₀.get? p.1=none:=λp d=>by
   have:=R.news p (sub p d);exact⟨hk _ _ (r p d) this.1,this.2⟩
  rcases aeH.mp d with d|d
  ·exact j p (aef _ d)
  ·rcases aeH.mp d with d|d
   ·refine Y (f p d) λq A e=>?_
    have:=R.news q (W q A);exact (bH (k p d) (e▸this.2.1) (e▸this.2.2))
   ·exact j p (aek _ d)
 ·refine pU.nodup_iff.mpr ?_;rw[aeO,e,←aeO];exact h
 ·rcases aeH.mp d with d|d
  ·exact R.hi p (aef _ d)
  ·rcases aeH.mp d with d|d
   ·refine Y (f p d) ?_;clear f;intro q A e;exact e▸R.hi q (W q A)
   ·exact R.hi p (aek _ (aek _ d))
noncomputable def dE(c:Cx W)(σ:LS)(α:List aep)(N:Led)(b:aep)(o:Obj):Prop:=c.h₀.get? b=some o\/((b,o)∈N/\(b∉α\/∃ i∈σ.mark,α[i]?=some b))
theorem dE.at (h:dE c σ α N b o) (g:Sts σ α N a e f) (R:SR (c.with M) a j e f):j.heap.get? b=some o:=by
 rcases h with h|⟨h,d|⟨i,A,d⟩⟩
 ·refine Y R.fr λm F W=>?_
  exact F.keep _ _ h
 ·exact R.get (g.ge.keep _ h d)
 ·exact R.get ((g.bf i A).2 _ _ d h)
noncomputable def ew (e:Tg) (b:Sc) (l:List O):LS->(LS->Rs)->Kv->Rs:=aeC (motive:=λd=>LS->(LS->Rs)->Kv->Rs) (λc kn d=>kn c) (λa d W c kn A=>e a c (λc=>b c (λc=>W c kn A) A)) l
theorem QQ:ew e b (a::l) σ kn kr=e a σ (λσ=>b σ (λσ=>ew e b l σ kn kr) kr):=rfl
theorem sh (D:ak c) (hn:c.comp=none) (hA:aP c d A) {target:aeD} {body:List afu} {P Md:Nat->aec->afd->Prop} {St:Nat->afd->Prop}
  (KT:KTurns W.prog W.w A target qd fp wr l.length P Md St) (ij:∀ M,(∀ p∈c.ax,p∈M)->cy (c.with M) A body cb)
  {α N} (R:SR (c.with (own++c.ax)) σ s α N) (el:St 0 s.heap) (fq:∀ b∈wr,b∈own.map (·.1)) (mz:∀ i h,St i h->∀ b∈own.map (·.1),∃ o,h.get? b=some o)
  (ik:∀ b∈fp,b∈own.map (·.1)\/∃ o,dE c σ α N b o)
  (abo:∀ M,(∀ p∈c.ax,p∈M)->∀ i v a u n B x,l[i]?=some a->P i v n.heap->SR (c.with M) u n B x->Sts σ α N u B x->∀ k y,tg a u k=y->y≠.no->∀ E,bS (c.with M) y u B x E->∀ Q,ko (c.with M) y u B x k Q->WP W A (aie target c.env v) Q E n)
  {kn:LS->Rs} {kr:Kv} {y:Rs} (h:ew tg cb l σ kn kr=y) (hy:y≠.no) {E:aec->aeg->Prop} (hE:bS c y σ α N E) {Q:Flow->aeg->Prop} (cW:gs c y σ α N kn Q) (cX:gu c y σ α N kr Q):
  agb (aeI W.prog W.w) A (.forLoop target (.ref qd) body [] c.env) (λr n=>match r with|.ok f=>Q f n|.error qe=>agJ (aeI W.prog W.w) A c.env E qe n) s:=by
 refine codeAny_forLoop_any (λk n=>∃ i T u B x,T.map (·.1)=own.map (·.1)/\SR (c.with (T++c.ax)) u n B x/\Sts σ α N u B x/\St i n.heap/\i<=l.length/\k=l.length+1-i/\ew tg cb (l.drop i) u kn kr=y) ?_ (l.length+1)
  (Pj 0 own σ α N rfl R .refl el (afa _) rfl (by rw [aiR];exact h))
 rintro k n⟨i,T,u,B,x,V,X,g,mV,hi,rfl,h⟩
 have ks:∀ M:Led,∀ p∈c.ax,p∈M++c.ax:=λM p e=>aek _ e
 by_cases F:i<l.length
 ·obtain⟨a,ha⟩:∃ a,l[i]?=some a:=⟨l[i],aeN F⟩
  rw [ahO F,show l[i]=a from aea ((aeN F).symm.trans ha),QQ] at h
  refine KT.item i _ _ _ F mV λv h₁ tk₁ uF G=>?_
  refine KT.go i v _ _ _ uF λZ hP mj te=>?_
  have hk:∀ b o,b∉T.map (·.1)->n.heap.get? b=some o->Z.get? b=some o:=λb o j q=>by
   rw [V] at j
   exact te b o (λz=>j (fq b z)) (G b o (λz=>j (fq b z)) q)
  have ex:∀ H:List aep,(∀ b∈H,∃ o,Z.get? b=some o)->∃ w:Led,w.map (·.1)=H/\∀ p∈w,Z.get? p.1=some p.2:=λH=>by
   induction H with
   |nil=>exact λu_=>⟨[],rfl,λp e=>(nomatch e)⟩
   |cons b H ih=>
    intro q
    refine Y (ih λb j=>q b (.tail _ j)) ?_;clear ih;intro w C I
    refine aL (q b (.head _)) λo ho=>?_
    refine (ay ((b,o)::w) (by rw [aeL,C]) (λp e=>?_))
    rcases aeq.mp e with rfl|e
    ·exact ho
    ·exact I p e
  refine Y (ex (own.map (·.1)) (mz _ _ mj)) ?_;clear ex mz;intro w C I
  have cA:=X.jh D (t:=tk₁) (C.trans V.symm) hk I
  have Nf:=(((hE.step g.kp).loop D hn hA).with hn (ks w))
  refine abo _ (ks w) i v a _ _ _ _ ha hP cA g _ y h hy _ Nf _ λk8 dU ji fY h bW dK=>?_
  refine ij _ (ks w) _ _ _ y h hy _ _ _ _ bW (Nf.step dK.kp) _ (λHj rd Hk Bu h L eQ=>?_) λa' Hj v' rd Hk Bu h L eQ hv=>?_
  ·have qb:=(g.trans dK).trans eQ
   refine (O8 (l.length+1-(i+1)) (by omega) (i+1) w Hj Hk Bu C L qb ?_ F rfl h)
   refine KT.frame _ _ _ mj λb j o q=>?_
   rcases ik b j with j|⟨o',j⟩
   ·rw [←C] at j
    refine Y (aeG.mp j) ?_;intro p e S;subst S
    have q':=I p e
    rw [q] at q'
    have S:=aea q';clear q';subst o
    exact (L.news p (aek _ (aef _ e))).1
   ·have q1:=j.at g cA
    have q2:Z.get? b=some o':=q1
    rw [q] at q2
    have S:=aea q2;clear q2;subst o'
    exact j.at qb L
  ·exact cX _ _ _ _ _ _ h (L.drop D) ((g.trans dK).trans eQ) hv
 ·have nA:i=l.length:=by omega
  subst nA
  rw [ahA] at h
  refine KT.done _ _ _ mV λh₁ tk₁ G=>ahh ?_
  obtain⟨w,C,I⟩:∃ w:Led,True/\True:=(ay [] trivial trivial)
  have dn:SR c u {n with heap:=h₁,toks:=tk₁} B x:=by
   have off:∀ p∈x++c.ax,p.1∉wr:=λp e z=>by
    have nd:=pU.nodup_iff.mp X.nodup
    rw [aeO] at nd
    have:=fq _ z
    rw [←V] at this
    exact (aeY.mp nd).2.2 _ this p.1 (aew e) rfl
   have m:=X.drop D
   refine Y m.fr λqc qa hm=>?_
   have nw:∀ b∈wr,b≠c.L/\c.h₀.get? b=none:=λb j=>by
    have:=fq _ j
    rw [←V] at this
    refine Y (aeG.mp this) ?_;clear this j;intro p e S;subst S
    exact (X.news p (aek _ (aef _ e))).2
   have F':Fr c.h₀ c.L h₁ qc:=⟨qa.ns.at' λo q=>G _ o (λz=>(nw _ z).1 rfl) q,λb o q=>G b o (λz=>by rw [(nw _ z).2] at q;exact aT q) (qa.keep b o q),qa.above⟩
   exact⟨(ay qc F' hm),m.aK,λp e=>⟨G _ _ (off p e) (m.news p e).1,(m.news p e).2⟩,m.nodup,m.inj,m.obj,m.all,m.hi,m.wf,m.bD,m.len,m.low,m.bt,m.gens,m.os,D.aZ.keeps F'.keep⟩
  exact cW _ _ _ _ h dn g
noncomputable def LS.bf (σ:LS) (i:Nat):LS:=LS.rec (motive:=λd=>LS) (λl c t n lo m=>⟨l,c,t,n,lo,i::m⟩) σ
noncomputable def LS.fL (a σ:LS):LS:=LS.rec (motive:=λd=>LS) (λl c t n lo d=>⟨l,c,t,n,lo,σ.mark⟩) a
theorem SR.marked(R:SR c σ s α N)(h:∀ i∈m,i<σ.n):SR c ⟨σ.loc,σ.aK,σ.st,σ.n,σ.lo,m⟩ s α N:=⟨R.fr,R.aK,R.news,R.nodup,R.inj,R.obj,R.all,R.hi,R.wf,R.bD,R.len,R.low,h,R.gens,R.os,R.aZ⟩
theorem SR.bf (R:SR c σ s α N) (h:i<σ.n):SR c (σ.bf i) s α N:=R.marked λj d=>(aeq.mp d).elim (λe=>e▸h) (R.bt j)
theorem SR.fL (R:SR c a s b e) (f:∀ i∈σ.mark,i<σ.n) (g:Sts (σ.bf i) α N a b e):SR c (a.fL σ) s b e:=R.marked λj d=>aej (f j d) g.n
theorem Sts.fL (g:Sts (σ.bf i) α N a b e):Sts σ α N (a.fL σ) b e:=⟨g.ge,g.lo,g.same,g.n,rfl,g.obs,λj c=>g.bf j (.tail _ c)⟩
theorem bS.bf (h:bS c y σ α N E) (i:Nat):bS c y (σ.bf i) α N E:=λC e d A W a q g x=>h C e (d.fL σ) A W a q ⟨g.ge,rfl,λj b=>g.bf j (.tail _ b)⟩ (x.same rfl)
noncomputable def ot (a:List (Str×O)):List O:=aeC [] (λe d c=>.str e.1::c) a
noncomputable def keysOk (a:List (Str×O)):Bool:=aeC true (λe d c=>and (afg e.1) c) a
noncomputable def xm (i:Nat) (f:LS->(LS->Rs)->Kv->Rs):LS->(LS->Rs)->Kv->Rs:=λc kn A=>f (c.bf i) (λd=>kn (d.fL c)) (λv d=>A v (d.fL c))
noncomputable def dq (a:Tg) (e:Ev) (b:Sc):Sc:=λc kn d=>e c λv c=>cD (lp (dZ .no c.st v λi o=>gF (ix .no o λA=>aN .no (keysOk A) (xm i (ew a b (ot A)) c kn d)) o λl=>aN .no (aeS l) (xm i (ew a b l) c kn d))
 v λl=>aN .no (aeS l) (ew a b l c kn d)) v λl=>aN .no (aeS l) (ew a b l c kn d)
noncomputable def hJ(e:aeD):Bool:=match e with
 |.Set ..=>false
 |_=>true
theorem pS(h:hJ e=true)(env:Env)(x:aec):foldedSetIterable e env x=pure x:=by
 induction e using afB<;>first|rfl|exact aX h
theorem vO (P:ak c) (hn:c.comp=none) (H:aP c d A) (rB:∀ M,(∀ p∈c.ax,p∈M)->kb (c.with M) A target tg) (ij:∀ M,(∀ p∈c.ax,p∈M)->cy (c.with M) A body cb)
  (R:SR c σ s α N) (el:dE c σ α N b o) (B:o.cls=.type "tuple" \/o.cls=.type "list") (hd:o.data=.seq vs.toArray n) (S:ah W.kt α N vs l) (C:aeS l=true)
  {kn:LS->Rs} (h:ew tg cb l σ kn kr=y) (I:y≠.no) {E:aec->aeg->Prop} (L:bS c y σ α N E) {Q:Flow->aeg->Prop} (cW:gs c y σ α N kn Q) (cX:gu c y σ α N kr Q):
  WP W A (ait (.ref b)) (λit d0=>agb (aeI W.prog W.w) A (.forLoop target it body [] c.env) (λr j=>match r with|.ok f=>Q f j|.error e=>agJ (aeI W.prog W.w) A c.env E e j) d0) E s:=by
 have g:=el.at (M:=c.ax) .refl R
 have bN:=aeJ g
 have eS:b≠s.heap.objs.size:=aeE bN
 have hlen:=S.len C
 have own:∀ {T:Obj},T.isFreed=false->SR (c.with ([(s.heap.objs.size,T)]++c.ax)) σ {s with heap:=s.heap.push T} α N:=λhf=>R.own P (t:=s.toks) (λb o q=>aeh _ q) (λp C=>by
  rw [ael.mp C]
  exact ⟨aeA _ hf,aeu _⟩) (by simp)
 have Ng:∀ M:Led,(∀ p∈c.ax,p∈M)->∀ (i:Nat) v a m j u z,l[i]?=some a->vs.toArray[i]?=some v->SR (c.with M) m j u z->Sts σ α N m u z->∀ k y,tg a m k=y->y≠.no->∀ E,bS (c.with M) y m u z E->∀ Q,ko (c.with M) y m u z k Q->WP W A (aie target c.env v) Q E j:=by
  intro M D i v a m j u z F hv R' qa k y h I E L Q hQ
  refine Y (S.at C i a F) ?_;clear S C;intro v' V q2
  have gW:vs[i]?=some v:=by simpa using hv
  rw [gW] at V;have bj:=aea V;clear V;subst v'
  exact rB M D _ _ _ _ h I _ _ _ _ _ R' L (q2.mono qa.ge) Q hQ
 have ik:∀ x∈[s.heap.objs.size,b],x∈[s.heap.objs.size]\/∃ o,dE c σ α N x o:=λx X=>by
  rcases aeq.mp X with rfl|X
  ·exact .inl (by simp)
  ·rw [ael.mp X];exact .inr ⟨o,el⟩
 rcases B with B|B
 ·have G:s.heap.IsTuple b vs.toArray:=(fC o g B n hd)
  refine aga G ?_
  have KT:=agq (target:=target) (Walks.tuple (prog:=W.prog) (w:=W.w) H.handled s.heap.objs.size b eS vs.toArray) λi v s Q E st q=>letGo_tupleiter st.1 q
  rw [show vs.toArray.size=l.length by simpa using hlen] at KT
  refine sh P hn H KT ij (own rfl) ⟨(dI _ (aeA _ rfl) rfl rfl),G.at λo e=>aeh _ e⟩ (λb g=>by simpa using g) (λi h st b g=>?_) (by simpa using ik) (λM D i v a m j u z F Z=>Ng M D i v a m j u z F Z) h I L cW cX
  have ig:b=s.heap.objs.size:=by simpa using g
  subst ig
  refine Y st.1 λo ho u_=>?_
  exact ⟨o,ho⟩
 ·have G:s.heap.IsList b vs.toArray:=(fC o g B n hd)
  refine ajb G ?_
  have KT:=agq (target:=target) (Walks.list (prog:=W.prog) (w:=W.w) H.handled s.heap.objs.size b eS vs.toArray) λi v s Q E st q=>letGo_listiter st.1 q
  rw [show vs.toArray.size=l.length by simpa using hlen] at KT
  refine sh P hn H KT ij (own rfl) ⟨(dI _ (aeA _ rfl) rfl rfl),G.at λo e=>aeh _ e⟩ (λb g=>by simpa using g) (λi h st b g=>?_) (by simpa using ik) (λM D i v a m j u z F Z=>Ng M D i v a m j u z F Z) h I L cW cX
  have ig:b=s.heap.objs.size:=by simpa using g
  subst ig
  refine Y st.1 ?_;clear st;intro o ho u_
  exact ⟨o,ho⟩
theorem Ux (h:aU T α N kvs a):keysOk a=true->kvs.length=(ot a).length/\∀ (i:Nat) (k:Str) (x:aec),kvs[i]?=some (k,x)->(ot a)[i]?=some (.str k)/\afg k=true:=by
 induction h with
 |nil=>exact λf=>⟨rfl,λi k x h=>nomatch h⟩
 |cons g j c=>
  intro e;refine ae (ad9.mp e) ?_;clear e;intro A d;refine ae (c d) ?_;clear c d;intro W b;refine⟨congrArg (·+1) W,λi k x h=>?_⟩
  induction i using aez with
  |zero=>cases aea h;exact⟨rfl,A⟩
  |succ i=>exact b i k x h
theorem QR{E:aec->aeg->Prop}{Q:Unit->aeg->Prop}(a:s.heap.IsKeyIter I d i n ep) (h:Q () s):
    WP W A (agP target (.ref I) v) Q E s:=by
  refine cJ a ?_;clear a;intro o c b e;unfold agP;induction target using afB<;>first
    | exact aeo h
    | (induction v using aff<;>first
        | exact aeo h
        | (refine aeb (ajg c ?_)
           rw[b,e];exact aeo h))
theorem So (n:ak c) (V:c.comp=none) (u:aP c d A) (X:∀ M,(∀ p∈c.ax,p∈M)->kb (c.with M) A target Z) (ij:∀ M,(∀ p∈c.ax,p∈M)->cy (c.with M) A body cb)
  (R:SR c σ s α N) (v:dE c σ α N b o) (hm:(b ==afS)=false) (z:o.IsDictOf (ae2 W.prog W.w) kvs) (B:aU W.kt α N kvs C) (D:keysOk C=true)
  {kn:LS->Rs}(h:ew Z cb (ot C) σ kn kr=y) (j:y≠.no){E:aec->aeg->Prop}(k:bS c y σ α N E){Q:Flow->aeg->Prop}(cW:gs c y σ α N kn Q) (cX:gu c y σ α N kr Q):
  WP W A (ait (.ref b)) (λit d0=>agb (aeI W.prog W.w) A (.forLoop target it body [] c.env) (λr l=>match r with|.ok f=>Q f l|.error e=>agJ (aeI W.prog W.w) A c.env E e l) d0) E s:=by
 have a:=v.at (M:=c.ax) .refl R
 have bN:=aeJ a
 have eS:b≠s.heap.objs.size:=aeE bN
 refine ae (Ux B D) ?_;clear B D;intro F G
 refine kI z ?_;clear z;intro CB H g uG tf sJ iU
 have I:s.heap.DictAt (ae2 W.prog W.w) b kvs H:=(vp o CB a g uG tf sJ iU)
 refine wpAny_pyIter_dict hm I ?_
 have KT:=agq (target:=target) (Walks.dictKeys (prog:=W.prog) (w:=W.w) (knd:=ae2 W.prog W.w) u.handled s.heap.objs.size b eS kvs H) λi qa s Q E st q=>QR (W:=W) st.1 q
 rw [F] at KT
 refine sh n V u KT ij (own:=[(s.heap.objs.size,_)]) (R.own n (t:=s.toks) (λb o q=>aeh _ q) (λp hp=>by
  rw [ael.mp hp]
  exact ⟨aeA _ rfl,aeu _⟩) (by simp)) ⟨(dI _ (aeA _ rfl) rfl (by show Data.fields _=_;rw [F];rfl)),I.at' λo e=>aeh _ e⟩ (λb a=>by simpa using a) (λi h st b a=>?_) (λx g=>?_) (λM hM i qa qb bu l bG N' ha L R' qc qd y h j E k Q hQ=>?_) h j k cW cX
 ·have ig:b=s.heap.objs.size:=by simpa using a
  subst ig
  refine Y st.1 ?_;clear st;intro o ho u_
  exact ⟨o,ho⟩
 ·rcases aeq.mp g with rfl|g
  ·exact .inl (by simp)
  ·rw [ael.mp g];exact .inr ⟨o,v⟩
 ·refine be L ?_;clear L;intro k' x P S
  refine aL (Value.isStrOf_shape S) ?_;clear S;intro t T;subst T
  refine ae (G i k' x P) ?_;clear G P;intro m q4
  rw [ha] at m;have T:=aea m;clear m;subst qb
  exact X M hM _ _ _ _ h j _ _ _ _ _ R' k (.str t q4) Q hQ
theorem gs.bf{kn:LS->Rs}(R:SR c σ s α N) (h:gs c y σ α N kn Q) (i:Nat):gs c y (σ.bf i) α N (λa=>kn (a.fL σ)) Q:=
 λa A W b q d g=>h _ _ _ _ q (d.fL R.bt g) g.fL
theorem gu.bf (R:SR c σ s α N) (h:gu c y σ α N kr Q) (i:Nat):gu c y (σ.bf i) α N (λv a=>kr v (a.fL σ)) Q:=
 λv a val W b e q d g A=>h _ _ _ _ _ _ q (d.fL R.bt g) g.fL A
theorem Uy (e:ak c) (g:c.comp=none) (j:aP c d A) (I:hJ G=true) (L:aE c A G P) (k:∀ M,(∀ p∈c.ax,p∈M)->kb (c.with M) A target Q) (m:∀ M,(∀ p∈c.ax,p∈M)->cy (c.with M) A body S):
  bQ c A (.For target G body [] pos) (dq Q P S):=by
 intro T kn kr y h W s V N E R H qc X Z;refine wpAny_For ?_ (pS I c.env);refine L T _ y h W s V N E R H _ λqd dj val dk cK bZ h a w x=>?_
 have q:=H.step w.kp;have t:=X.step w.toSts;have u:=Z.step w.toSts;rcases l8 h with h|⟨l,rfl,h⟩
 ·rcases vI h with h|⟨l,rfl,h⟩
  ·refine Y (i0 h W) ?_;clear h;intro i b h;subst b;refine Y (aR h W) λo hg h=>?_
   refine Y x.inv ?_;intro qa b v;subst b;refine Y (a.of hg v) λqe z B=>?_
   rcases PY h with h|⟨l,rfl,h⟩
   ·refine Y (l5 h W) ?_;clear h;intro es b h;subst b;refine ae (aS h W) λhko h=>?_
    refine Y B.inv λkvs hd r=>?_
    exact So e g j k m (a.bf (a.lt v)) (.inr ⟨z,.inr (ay i (.head _) v)⟩) (a.hi _ (aef _ z)) hd r hko h W (q.bf i) (t.bf a i) (u.bf a i)
   ·refine ae (aS h W) λf h=>?_
    refine be B.inv ?_;clear B;intro C n b r;subst b;exact vO e g j k m (a.bf (a.lt v)) (.inr ⟨z,.inr (ay i (.head _) v)⟩) (.inr rfl) rfl r f h W (q.bf i) (t.bf a i) (u.bf a i)
  ·refine ae (aS h W) λf h=>?_
   refine gC x.inv ?_;intro qa C n b D F r;subst b;exact vO e g j k m a (.inr ⟨D,.inl F⟩) (.inr rfl) rfl r f h W q t u
 ·refine ae (aS h W) λf h=>?_
  rcases x.inv with ⟨qb,o,C,n,rfl,D,F,e1,e2,r⟩|⟨qb,C,n,sl,rfl,hl,r⟩
  ·exact vO e g j k m a (.inr ⟨D,.inl F⟩) (.inl e1.1) e2 r f h W q t u
  ·exact vO e g j k m a (.inl (e.aZ _ _ hl)) (.inl rfl) rfl r f h W q t u
theorem SR.iH (R:SR c σ s α N) (a:ak c) (o:Obj) (b:o.isFreed=false:=by rfl): SR c σ {s with heap:=s.heap.push o,toks:=t} α ((s.heap.objs.size,o)::N)/\bh σ α N σ α ((s.heap.objs.size,o)::N):=by
 refine Y R.fr λm F d=>?_
 exact R.hidden a (t:=t) d (F.push o) (News.push F R.news o b)
theorem SR.pushS (R:SR c σ s α N) (a:ak c) (b:σ.room=true) (o:Obj) (e:o.isFreed=false:=by rfl) (f:bh σ α N (σ.push ao) (α++[s.heap.objs.size]) ((s.heap.objs.size,o)::N)->OR W (α++[s.heap.objs.size]) ((s.heap.objs.size,o)::N) σ.n o ao): SR c (σ.push ao) {s with heap:=s.heap.push o,toks:=t} (α++[s.heap.objs.size]) ((s.heap.objs.size,o)::N)/\bh σ α N (σ.push ao) (α++[s.heap.objs.size]) ((s.heap.objs.size,o)::N):=by
 refine Y R.fr λm F d=>?_
 exact R.add a b (t:=t) d (F.push o) (News.push F R.news o e) f
theorem SR.vB (R:SR c σ s α N) (j:ak c) {m:Str->Option aec} (k:NR c σ.loc α N m) (f:Fr c.h₀ c.L h' m) (l:agD c.h₀ c.L h' ((a,o)::(N++c.ax))) (n:a∉(N++c.ax).map (·.1)) (q:c.L<a):
  SR c σ {s with heap:=h',toks:=t} α ((a,o)::N)/\bh σ α N σ α ((a,o)::N):=by
 have g:Ge α N α ((a,o)::N):=⟨afA _,λd h d=>.tail _ h,λd h=>.inl h,λd W h=>⟨W,.tail _ h⟩⟩
 refine ⟨⟨(ay m f (k.mono g)),R.aK.mono g,l,?_,R.inj,λi o hi e=>?_,λa h=>ahy _ (R.all a h),λp A=>?_,R.wf,R.bD,R.len,R.low,R.bt,R.gens,R.os,j.aZ.keeps f.keep⟩,⟨⟨g,aeu _,λd d=>rfl,aeu _,rfl,λd d d d d h d=>.tail _ h,λd d=>⟨rfl,λd d d h=>.tail _ h⟩⟩,rfl⟩⟩
 ·rw[ag4,aeL];exact aeU.mpr ⟨n,R.nodup⟩
 ·refine aH (R.obj i o hi e) λa b r u v=>?_
  exact (bB a b r (.tail _ u) (v.mono g λd d d d h d=>.tail _ h))
 ·rcases aeq.mp A with rfl|A
  ·refine beq_eq_false_iff_ne.mpr λe=>?_
   have w:a=sysModules:=e;exact absurd (aej (aiV j.lim) f.above) (afk.mpr (agM (w▸q)))
  ·exact R.hi p A
noncomputable abbrev Prim:=List O->Ev
noncomputable def dQ (c:Cx W) (A:aeX) (f:aec) (p:Prim):Prop:=∀ l d k y,p l d k=y->y≠.no->∀ s a N E,SR c d s a N->bS c y d a N E->∀ b,ah W.kt a N b l->aeS l=true->∀ Q,fZ c y d a N k Q->WP W A (afc f b) Q E s
noncomputable def aQ(p:Prim)(a:eb):Ev:=λc k=>a c λl c=>p l c k
noncomputable def noRef(v:aec):Bool:=match v with
 |.ref c=>false
 |_=>true
theorem QS(h:noRef v=true):keeperOf v=pure Keeper.machine:=by induction v using aff<;>first|rfl|exact aX h
theorem vC (g:ak c){p:Prim}{x:Str}{i:Pos}{n:Nat}{v:aec}{args:List aeD}{a}{pos:Pos}(j:args.any aey=false) (m:c.scope.names[n]?=some (x,.globalImplicit)) (b:cH x=true) (o:W.G.boot x=true) (q:ahV x=some v) (r:noRef v=true) (t:dQ c A v p) (u:gL c A args a):aE c A (.Call (.Name x i) args [] pos) (aQ p a):=by
 intro w k y h d s z N E R e Q B;refine Call_ (jX g m b o q R ?_);refine eL (P:=λC=>True) j (λb C=>(ay _ (.inr (.inl rfl)) (afV (QS r)))) ?_
 exact u w _ y h d s z N E R e pos _ λl H I L M S h D f F G=>⟨trivial,t _ _ _ _ h d _ _ _ _ D (e.step f.kp) _ F G _ (B.step f)⟩
theorem kS (h:ah T α N vals [a]) (b:aeS [a]=true):∃ v,vals=[v]/\VR T α N v a:=by
 refine aH (h.cj (gB b).1) ?_;clear h b;intro v W c d A;subst c;rw [A.nil_inv];exact (ay v rfl d)
theorem jV (h:ah T α N vals [a,b]) (e:aeS [a,b]=true):∃ v w,vals=[v,w]/\VR T α N v a/\VR T α N w b:=by
 refine aH (h.cj (gB e).1) ?_;clear h;intro v f c A d;subst c;refine Y (kS d (gB e).2) ?_;clear d e;intro w c W;subst c;exact (bB v w rfl A W)
theorem P4 (h:ah T α N vals [a,b,z]) (e:aeS [a,b,z]=true):∃ u v w,vals=[u,v,w]/\VR T α N u a/\VR T α N v b/\VR T α N w z:=by
 refine aH (h.cj (gB e).1) ?_;clear h;intro v g c A d;subst c;refine aH (jV d (gB e).2) ?_;clear d e;intro w u c W f;subst c;exact (l7 v w u rfl A W f)
noncomputable def hU (l:List O) (f:O->Rs):Rs:=aet l .no λa l=>aet l (f a) λc c=>.no
@[elab_as_elim]theorem iw{f:O->Rs}{M:List aec->Prop}(b:ah T α N vals l) (e:aeS l=true) (h:hU l f=y) (g:y≠.no) (k:∀ a v,VR T α N v a->f a=y->M [v]):M vals:=by
 induction l using aet with
 |nil=>exact bO h g
 |cons a l=>induction l using aet with
  |nil=>refine Y (kS b e) ?_;clear b e;intro v c d;subst c;exact k a v d h
  |cons=>exact bO h g
noncomputable def ou (l:List O) (f:O->O->Rs):Rs:=aet l .no λa l=>aet l .no λb l=>aet l (f a b) λc c=>.no
@[elab_as_elim]theorem pV{f:O->O->Rs}{M:List aec->Prop}(g:ah T α N vals l) (i:aeS l=true) (h:ou l f=y) (e:y≠.no) (k:∀ a b v w,VR T α N v a->VR T α N w b->f a b=y->M [v,w]):M vals:=by
 induction l using aet with
 |nil=>exact bO h e
 |cons a l=>induction l using aet with
  |nil=>exact bO h e
  |cons b l=>induction l using aet with
   |nil=>refine aH (jV g i) ?_;clear g i;intro v w c d A;subst c;exact k a b v w d A h
   |cons=>exact bO h e
noncomputable def tO (l:List O):Option Nat:=dN (and (aeS l) (short l)) (some l.length)
noncomputable def abp (st:Tr) (a:O):Option Nat:=Vw.casesOn (vw st a) (λc=>none) tO tO (λc c=>none) (aD none (iF st a) λd=>dN (aeQ d.length (nat_lit 1000)) (some d.length))
noncomputable def dB:Prim:=λl c k=>hU l λa=>aD .no (abp c.st a) λn=>k (.int (afs n)) c
theorem FN (r:ah T α N vs l) (h:tO l=some n):(vs.toArray.size:Int)<2^63/\vs.toArray.size=n:=by
 refine ae (fR h) ?_;clear h;intro c h;refine ae (ad9.mp c) ?_;clear c;intro d A;have e:=ae9.trans (r.len d);have:l.length<=1000:=i4 A;exact⟨by omega,e.trans (aea h)⟩
theorem Uz:dQ c A (.builtin "len") dB:=by
 intro l q k y h f s M N E R P S B C Q D;refine iw B C h f λa v g h=>?_
 refine Y (aR h f) ?_;clear h f;intro n d h;have fin:∀ t,Q (.int (n:Int) t) {s with toks:=s.toks+1+1}:=λt=>D _ _ _ _ _ _ h R.toks .refl (.int _ _)
 have go:∀ w,vw q.st a=w->(Vw.casesOn w (λu=>none) tO tO (λu u=>none) (aD none (iF q.st a) λi=>dN (aeQ i.length (nat_lit 1000)) (some i.length)):Option Nat)=some n->WP W A (call (.builtin "len") [v]) Q E s:=λw j d=>by
  induction w using Vw.casesOn with
  |tup l=>
   refine aH (eX R (Ak j▸g)) ?_;intro x F m o r;subst m;refine ae (FN r d) λb p=>?_
   exact len_tuple o b (p▸fin _)
  |lst l=>
   refine aH (jS R (by unfold eD;rw [j]) g) ?_;clear j;intro x F m o r;subst m
   refine ae (FN r d) ?_;clear r;intro b p;exact call_len_list o b (p▸fin _)
  |bad=>
   refine Y (aR d aO) ?_;clear d;intro i G d;refine kG R g G aO λx H T lo I L e=>?_
   obtain rfl:=aea e;refine ae (fR d) ?_;clear d;intro z d;obtain rfl:=aea d;have z:H.length<=1000:=aei z;have b:=L.len0;exact call_len_dict lo I (by omega) (b▸fin _)
  |_=>exact aT d
 exact go _ rfl d
noncomputable def Bv (st:Tr) (a:O):Option (List O):=Vw.casesOn (vw st a) (λc=>none) some some (λc c=>none) none
noncomputable def bJ:Prim:=λl c k=>hU l λa=>cD (aD .no (eD c.st a) λl=>aN .no (short l) (k (.tup l) c)) a λl=>k (.tup l) c
theorem size_le (r:ah T α N vs l) (h:short l=true):vs.toArray.size<=sizeLine:=
 aev (af8 ae9) (aev r.le (aev (i4 h) (by decide)))
theorem QT (b:ak c):dQ c A (.type "tuple") bJ:=by
 intro l w k y h d s z N E R B C o p Q g;refine iw o p h d λa v W h=>?_
 rcases l8 h with h|⟨l,rfl,h⟩
 ·refine Y (aR h d) ?_;clear h;intro l i h;refine ae (aS h d) ?_;clear h d;intro q h;refine aH (jS R i W) ?_;clear i;intro x j e f r;subst e;refine call_tuple_list f (λD hk=>?_) (size_le r q)
  have m:=R.ext b (t:=s.toks) hk;refine ae (m.iH b {cls:=.type "tuple",data:=.seq j.toArray} (t:=s.toks)) ?_;clear b;intro u n;exact g _ _ _ _ _ _ h u n (.tup (.head _) m.away ⟨rfl,rfl⟩ rfl (r.mono n.ge))
 ·refine aH (eX R W) ?_;intro x j e f r;subst e;exact call_tuple_tup f (g _ _ _ _ _ _ h R .refl W)
noncomputable def gd:Prim:=λl c k=>hU l λa=>aD .no (Bv c.st a) λl=>aN .no (short l) (k (.hl l) c)
noncomputable def sM:Prim:=λl c k=>hU l λa=>aD .no (Bv c.st a) λl=>aN .no (and (short l) c.room) (k (.ref c.n) (c.push (.list l)))
theorem Gw (R:SR c σ s α N) (k:Bv σ.st a=some l) (h:VR W.kt α N v a):∃ x vs o n T,v=.ref x/\(T="list" \/T="tuple")/\s.heap.get? x=some o/\o.cls=.type T/\o.data=.seq vs.toArray n/\ah W.kt α N vs l:=by
 have go:∀ w,vw σ.st a=w->(Vw.casesOn w (λj=>none) some some (λj j=>none) none:Option (List O))=some l->∃ x vs o n T,v=.ref x/\(T="list" \/T="tuple")/\s.heap.get? x=some o/\o.cls=.type T/\o.data=.seq vs.toArray n/\ah W.kt α N vs l:=λw A e=>by
  induction w using Vw.casesOn with
  |tup m=>
   obtain rfl:=aea e;refine aH (eX R (Ak A▸h)) ?_;intro x vs b d r;subst b;refine kT d ?_;clear d;intro o f g n i;exact⟨x,vs,o,n,_,rfl,.inr rfl,f,g,i,r⟩
  |lst m=>
   obtain rfl:=aea e;refine aH (jS R (by unfold eD;rw[A]) h) ?_;clear R A h;intro x vs b d r;subst b
   refine kT d ?_;clear d;intro o f g n i;exact⟨x,vs,o,n,_,rfl,.inl rfl,f,g,i,r⟩
  |_=>exact aT e
 exact go _ rfl k
theorem SR.newList (R:SR c σ s α N) (f:ak c) (hk:∀ b o,s.heap.get? b=some o->h'.get? b=some o) (q:h'.get? s.heap.objs.size=some {cls:=.type "list",dict:=none,data:=.seq vs.toArray n,slots:=#[]}) (r:ah W.kt α N vs l):
  (∃ a,SR c σ {s with heap:=h',toks:=t} α a/\bh σ α N σ α a/\VR W.kt α a (.ref s.heap.objs.size) (.hl l))/\
  (σ.room=true->∃ h a,SR c (σ.push (.list l)) {s with heap:=h',toks:=t} h a/\bh σ α N (σ.push (.list l)) h a/\VR W.kt h a (.ref s.heap.objs.size) (.ref σ.n)):=by
 refine Y R.fr λm F d=>?_
 have A:Fr c.h₀ c.L h' m:=⟨F.ns.keeps hk,λb o e=>hk _ _ (F.keep b o e),F.above⟩
 have a:agD c.h₀ c.L h' ((s.heap.objs.size,{cls:=.type "list",dict:=none,data:=.seq vs.toArray n,slots:=#[]})::(N++c.ax)):=λp i=>by
  rcases aeq.mp i with rfl|i
  ·exact (bH q (agl F.ns.lt) (none_at_size F))
  ·have:=R.news p i
   exact⟨hk _ _ this.1,this.2⟩
 refine⟨?_,λk=>?_⟩
 ·refine ae (R.hidden f (t:=t) d A a) λj g=>?_
  exact (dI _ j g (.hl (n:=n) (.head _) R.away (r.mono g.ge)))
 ·refine ae (R.add f k (t:=t) (ao:=.list l) d A a λg=>.list (n:=n) (r.mono g.ge)) ?_;clear f k d A a r;intro j g
  exact (bB _ _ j g (.ref (kD R.len)))
theorem QU (b:ak c):dQ c A (.type "list") gd:=by
 intro l F k y h d s G N E R H I i j Q m;refine iw i j h d λa v W h=>?_
 refine Y (aR h d) ?_;clear h;intro l e h;refine ae (aS h d) ?_;clear h d;intro p h;refine DV (Gw R e W) ?_;clear e W;intro x L o n T u w z B C r;subst u;refine call_list_seq x w z B C (λM P hk f=>?_) (size_le r p)
 refine cJ ((R.newList b hk f (t:=s.toks) r).1) ?_;clear R b hk f r;intro S D g q;exact m _ _ _ _ _ _ h D g q
theorem QV (b:ak c):dQ c A (.type "list") sM:=by
 intro l G k y h d s H N E R I L m p Q u;refine iw m p h d λa v e h=>?_
 refine Y (aR h d) ?_;clear h;intro l f h;refine ae (aS h d) ?_;clear h d;intro W h;refine ae (ad9.mp W) ?_;clear W;intro W i;refine DV (Gw R f e) ?_;clear f e;intro x M o n T w z B C D r;subst w;refine call_list_seq x z B C D (λP S hk j=>?_) (size_le r W)
 refine aH ((R.newList b hk j (t:=s.toks) r).2 i) ?_;clear R b hk j r i;intro V X F g q;exact u _ _ _ _ _ _ h F g q
noncomputable def wm:Prim:=λl c k=>hU l λa=>i8 .no a λb=>k (.int (aen 0 1 b)) c
theorem EW:dQ c A (.type "int") wm:=by
 intro l i k y h d s j N E R m n W e Q f;refine iw W e h d λa v g h=>?_
 refine zj g h d λb o h=>?_
 refine call_int_bool ?_;induction b using aee<;>exact f _ _ _ _ _ _ h R.toks .refl (.int _ _)
theorem QW (a:afg x=true)(b:afg y=true):afg (x++y)=true:=by
 unfold afg at*;show (x.cps++y.cps).all _=true;rw[Array.all_append,a,b];rfl
noncomputable def abq (m:Bool) (σ:LS) (k:Kv) (l r:List O):Rs:=aN .no (and (short l) (short r)) (aen (k (.hl (l++r)) σ) (aN .no σ.room (k (.ref σ.n) (σ.push (.list (l++r))))) m)
noncomputable def X3 (m:Bool) (σ:LS) (k:Kv) (a b:O):Rs:=aD .no (eD σ.st a) λl=>aD .no (eD σ.st b) λr=>abq m σ k l r
noncomputable def X4 (m:Bool) (σ:LS) (k:Kv) (a b:O):Rs:=cD (X3 m σ k a b) a λl=>cD .no b λr=>aN .no (and (short l) (short r)) (k (.tup (l++r)) σ)
noncomputable def X5 (m:Bool) (σ:LS) (k:Kv) (a b:O):Rs:=afD (X4 m σ k a b) a λx=>afD .no b λy=>aN .no (aeQ (ahK x.length y.length) (nat_lit 1000)) (k (.str (x++y)) σ)
noncomputable def LA (m:Bool) (σ:LS) (k:Kv) (a b:O):Rs:=dR (X5 m σ k a b) a λx=>dR .no b λy=>k (.int (x+y)) σ
noncomputable def bb(m:Bool)(a b:Ev):Ev:=λc k=>a c λx c=>b c λy c=>LA m c k x y
theorem zm (a:short l=true)(b:short r=true)(e:ah T α N vs l)(f:ah T α N ws r):vs.length+ws.length<=sizeLine:=by
 have c:l.length<=1000:=i4 a;have d:r.length<=1000:=i4 b;have A:=e.le;have W:=f.le;have:vs.length+ws.length<=2000:=by omega
 exact aev this (by decide)
theorem ah.FO (h:ah T α N vs l):vs=[]->∀ {ws r},ah T α N ws r->ah T α N ws (l++r):=ah.ind (P:=λvs l=>vs=[]->∀ {ws r},ah T α N ws r->ah T α N ws (l++r)) (λc c c h=>h) (λc c c e=>nomatch e) (λc c c c e=>nomatch e) (λd c A e c c h=>.no d (A e h)) h
theorem ah.FP (h:ah T α N vs l)(h':ah T α N [] r):ah T α N vs (l++r):=by
 have:=h.app h';rwa [agu] at this
theorem UA (H:ak c) (h:LA m σ k a b=y) (f:y≠.no) (R:SR c σ s α N) (w:VR W.kt α N va a) (z:VR W.kt α N vb b) (o:fZ c y σ α N k Q):WP W A (binaryOp .Add va vb) Q E s:=by
 rcases EI h with e|⟨x,rfl,e⟩
 ·rcases EH e with p|⟨x,rfl,p⟩
  ·rcases l8 p with u|⟨l,rfl,u⟩
   ·refine Y (aR u f) λl hl h=>?_
    refine Y (aR h f) ?_;clear h;intro r hr h;refine ae (aS h f) ?_;clear h;intro I h;refine aH (jS R hl w) ?_;intro x vs d L i;subst d;refine aH (jS R hr z) ?_;clear hr;intro x' ws d M j;subst d;refine ae (ad9.mp I) λP S=>?_
    refine Y R.fr λm' F B=>?_
    refine add_lists F R.news L M (λh' C D=>?_) (zm P S i j)
    induction m using aee with
    |true=>
     refine ae (aS h f) ?_;clear h;intro iG h;refine ae (R.add H iG (t:=s.toks) (ao:=.list (l++r)) B C D λg=>.list (n:=0) ((i.app j).mono g.ge)) ?_;clear iG;intro G g
     exact o _ _ _ _ _ _ h G g (.ref (kD R.len))
    |false=>
     refine ae (R.hidden H (t:=s.toks) B C D) λG g=>?_
     exact o _ _ _ _ _ _ h G g (.hl (n:=0) (.head _) R.away ((i.app j).mono g.ge))
   ·refine Y (dO u f) ?_;intro r d h;subst d;refine ae (aS h f) ?_;clear h;intro I h;refine ae (ad9.mp I) ?_;clear I;intro P S;refine aH (eX R w) ?_;intro x vs d L i;subst d;refine aH (eX R z) ?_;intro x' ws d M j;subst d;refine Y R.fr λm' F B=>?_
    refine add_tuples F R.news L M (λqa=>?_) (λe1 T=>?_) (λe1 T h' C D=>?_) (zm P S i j)
    ·refine o _ _ _ _ _ _ h R .refl ?_;rcases z.inv with ⟨a,qb,V,X,q,e,p,u,Z,v⟩|⟨a,V,X,sl,q,e,v⟩
     ·exact q▸.tup e p u Z (i.FO qa v)
     ·exact q▸.tupK e (i.FO qa v)
    ·refine o _ _ _ _ _ _ h R .refl ?_;rcases w.inv with ⟨a,qb,V,X,q,e,p,u,Z,v⟩|⟨a,V,X,sl,q,e,v⟩
     ·exact q▸.tup e p u Z (v.FP (T▸j))
     ·exact q▸.tupK e (v.FP (T▸j))
    ·refine ae (R.hidden H (t:=s.toks) B C D) ?_;clear H B C D;intro G g;exact o _ _ _ _ _ _ h G g (.tup (.head _) R.away ⟨rfl,rfl⟩ rfl ((i.app j).mono g.ge))
  ·refine Y w.inv ?_;intro t d ok;subst d;refine gE z p f λqc t' u_ ok' h=>?_
   refine ae (aS h f) ?_;clear h;intro hlen h;exact PyProof.Rows.add_str (λt'' tk=>o _ _ _ _ _ _ h R.toks .refl (.str _ (QW ok ok'))) (aev (aei hlen) (by decide))
 ·refine aL w.inv ?_;clear w;intro t d;subst d;refine i3 z e f λqc t' u_ h=>?_
  exact ajH (o _ _ _ _ _ _ h R.toks .refl (.int _ _))
theorem UB (g:ak c) (i:aE c A a j) (l:aE c A b n):aE c A (.BinOp a .Add b pos) (bb m j n):=by
 intro o k y h d s p N E R W Q q;refine wpAny_BinOp ?_;refine i o _ y h d s p N E R W _ λw x z B C D h r e t=>?_
 refine l _ _ _ h d _ _ _ _ r (W.step e.kp) _ λF G H I L M h u f v=>?_
 exact UA g h d u (t.mono f.ge) v (q.step (e.trans f))
noncomputable def iM (a:Ev):Ev:=λc k=>a c λv c=>dR .no v λi=>k (.int (-i)) c
theorem FQ (a:aE c A x b):aE c A (.UnaryOp .USub x pos) (iM b):=by
 intro W k y h d s e N E R f Q g;refine UnaryOp_ (a W _ y h d s e N E R f _ λv n val o p q h j l m=>?_)
 refine i3 m h d λi t r h=>?_
 exact PyProof.Rows.neg_int (g _ _ _ _ _ _ h j.toks l (.int _ _))
theorem P5 (n:Nat):ahP none (some (-1:Int)) 1 ((n+1:Nat):Int)=(0,(n:Int)):=by
 unfold ahP;simp only[show ¬ ((1:Int)<0) by omega,if_false,show ((-1:Int)<0) by omega,if_true]
 congr 1;omega
theorem P6 (n:Nat):ag0 0 (n:Int) 1=n:=by
 unfold ag0;simp only[show ((1:Int)>0) by omega,if_true,Int.ediv_one]
 split<;>omega
section
variable{prog:ae0}{w:afh}{A:aeX}{E:aec->aeg->Prop}{s:aeg}
theorem O4{Q:Int×Int×Nat->aeg->Prop}(a:s.heap.IsSliceOf sl .none (.int (-1) u) .none) (h:Q (0,1,n) s): aeF (aeI prog w) A (ai7 (.ref sl) (pure ((n+1:Nat):Int))) Q E s:=by
 refine cJ (id a) ?_;clear a;intro os c b d;unfold ai7 Builtin.Slice.sliceFields;refine aeb (aeb (ae3 c d (x:=.none) rfl (aeb (ae3 c d (x:=.int (-1) u) rfl (aeb (ae3 c d (x:=.none) rfl (aeo ?_)))))));refine aeb (slicePart_none ?_);show aeF _ _ (if ((1:Int) ==0)=true then _ else _) _ _ s;rw[if_neg (by decide)]
 refine aeb (slicePart_none (aeb (slicePart_int (aeb (aeo ?_)))));show aeF _ _ (match ahP none (some (-1:Int)) 1 ((n+1:Nat):Int) with|(lo,W)=>pure (lo,(1:Int),ag0 lo W 1)) _ _ s
 rw[P5 n];show aeF _ _ (pure ((0:Int),(1:Int),ag0 (0:Int) (n:Int) 1)) _ _ s;rw[P6 n];exact aeo h
theorem Sp(a:Array aec)(n:Nat):((afT n).filterMap fun(k:Nat)=>a[((0:Int)+(k:Int)*1).toNat]?).toArray=(a.toList.take n).toArray:=by
 have e:(fun(k:Nat)=>a[((0:Int)+(k:Int)*1).toNat]?)=λk=>a[k]?:=by
  funext k;have:((0:Int)+(k:Int)*1).toNat=k:=by omega
  rw[this]
 rw[e];have:=pick_run a 0 n;rw[List.filterMap_map]at this;have c:((λx=>a[x]?) ∘ λx=>0+x)=λk=>a[k]?:=by funext k;simp
 rw[c]at this;rw[this,aiR]
theorem OW {Q:aec->aeg->Prop}(b:IsTup s.heap t a) (e:s.heap.IsSliceOf sl .none (.int (-1) u) .none) (f:a.size=n+1)
  (h:Q (.ref s.heap.objs.size) {s with heap:=s.heap.push {cls:=.type "tuple",data:=.seq (a.toList.take n).toArray}})
  (j:a.size<=sizeLine):aeF (aeI prog w) A (getItem (.ref t) (.ref sl)) Q E s:=by
 have c:sizeOk (.seq (a.toList.take n).toArray):=by
  show (a.toList.take n).toArray.size<=sizeLine
  rw[ae9,List.length_take,aiK]
  omega
 refine cJ (id e) λos d W k=>?_
 have g:s.TypeIs (.ref sl) "slice" :=(ay os d W)
 unfold getItem
 try with_reducible refine afO ?_
 first|refine aeb (aeo ?_)|skip
 refine aeb (wpAny_sequenceKey b.typeIs (by decide) ?_)
 refine aeb (afI (name:=agv "__getitem__") b.typeIs agr
  (afL agr b.typeIs entry_tuple_getitem ?_ (args_tuple_getitem _ _)))
 show aeF _ _ (Builtin.Tuple.tupleItemsOf (.ref t) >>=_) _ _ s
 refine aeb (tupleItemsOf_ b ?_)
 refine aeb (aiu g ?_)
 rw[if_pos (by decide),f]
 refine aeb (O4 e ?_)
 have i:¬ (((0:Int) ==0&&(1:Int) ==1&&n ==n+1)=true):=by
  have:(n ==n+1)=false:=by rw[beq_eq_false_iff_ne];omega
  rw[this];simp
 show aeF _ _ (if ((0:Int) ==0&&(1:Int) ==1&&n ==n+1)=true then _ else _) _ _ s
 rw[if_neg i,Sp a n]
 first
  |exact aeb (m:=ag9 _) (afH (aeo (ay _ rfl (aeo h))) c)
  |exact aeb (m:=ag9 _) (afH (aeb (aeo (aeo ⟨_,rfl,aeo h⟩))) c)
  |exact aeb (aeb (m:=ag9 _) (afH (aeo (aeo ⟨_,rfl,aeo h⟩)) c))
  |exact aeb (aeb (m:=ag9 _) (afH (aeo ⟨_,rfl,aeo h⟩) c))
end
theorem ah.take (h:ah T α N vs l):aeS l=true->∀ n,ah T α N (vs.take n) (l.take n):=ah.ind (P:=λvs l=>aeS l=true->∀ n,ah T α N (vs.take n) (l.take n)) (λc n=>by induction n using aez<;>exact .nil)
 (λh c d p n=>by induction n using aez with
  |zero=>exact .nil
  |succ n=>exact .cons h (d (vy p) n)) (λc c c c=>iu) (λc c c=>iu) h
noncomputable def wo (n:Nat) (l:List O):List O:=aeC (motive:=λc=>Nat->List O) (λc=>[]) (λa c d n=>afX (motive:=λc=>List O) [] (λm c=>a::d m) n) l n
theorem vD:∀ {l:List O}{n:Nat},wo n l=l.take n
 |[],0=>rfl
 |[],b+1=>rfl
 |a::l,0=>rfl
 |a::l,n+1=>congrArg (a::·) (vD (l:=l))
noncomputable def yt (l:List O):Bool:=and (aeS l) (short l)
noncomputable def Nh (σ:LS) (k:Kv) (a:O) (n:Nat):Rs:=aD .no (eD σ.st a) λl=>aN .no (yt l) (k (.hl (wo n l)) σ)
noncomputable def gf{a:Type}(z:a)(l:List O)(f:O->List O->a):a:=aet l z f
theorem g9{b:Type}{z y₀:b}{f:O->List O->b}(h:gf z l f=y₀)(e:y₀≠z):∃ a r,l=a::r/\f a r=y₀:=by
 induction l using aet with
 |nil=>exact absurd h.symm e
 |cons a r=>exact(gJ a r rfl h)
noncomputable def Ni (σ:LS) (k:Kv) (a:O):Rs:=cD (aD .no (eD σ.st a) λl=>aN .no (yt l) (k (.hl (wo (agf l.length) l)) σ)) a λl=>gf .no l λc r=>aN .no (yt l) (k (.tup (wo r.length l)) σ)
noncomputable def Nj (σ:LS) (k:Kv) (a j:O):Rs:=dR .no j λj=>afw (motive:=λc=>Rs) j (λn=>Nh σ k a n) λm=>aN .no (aem m (nat_lit 0)) (Ni σ k a)
noncomputable def qD(o u:Ev):Ev:=λc k=>o c λa c=>u c λj c=>Nj c k a j
theorem AN:(1000:Nat)<=sizeLine:=by decide
theorem Wc (L:ak c) (h:Nj σ₂ k a j=y) (v:y≠.no) (M:SR c σ₂ b z B) (N:VR W.kt z B V a) (X:VR W.kt z B P j) {Q:aec->aeg->Prop} (Z:fZ c y σ₂ z B k Q):
  WP W A (ahG o (.Slice none (some u) none p) V (.ref b.heap.objs.size)) Q E {b with heap:=b.heap.push {cls:=.type "slice",data:=.fields #[.none,P,.none]}}:=by
 have ec:∀ {l:List O} {d:List aec},ah W.kt z B d l->aeS l=true->short l=true->d.toArray.size<=sizeLine:=λf g i=>size_le f i
 have lists:∀ {l:List O} {w:Int} {r:List O} {m},P=.int w m->eD σ₂.st a=some l->aeS l=true->short l=true->(∀ d:List aec,ah W.kt z B d l->ah W.kt z B (slicePick d.toArray none (some w) none).toList r)->k (.hl r) σ₂=y->
   WP W A (ahG o (.Slice none (some u) none p) V (.ref b.heap.objs.size)) Q E {b with heap:=b.heap.push {cls:=.type "slice",data:=.fields #[.none,P,.none]}}:=by
  intro l w r m e C g i hr h;subst e;refine aH (jS M C N) ?_;intro x d q R f;subst q;have D:Heap.IsList (b.heap.push {cls:=.type "slice",data:=.fields #[.none,.int w m,.none]}) x d.toArray:=R.at λo e=>aeh _ e
  refine aiQ (s:={b with heap:=b.heap.push {cls:=.type "slice",data:=.fields #[.none,.int w m,.none]}}) D.typeIs list_getitem_lookup (wpAny_getItem_list_slice D (ai2 ..) .none (.int _ _) .none (by simp) ?_ (ec f g i)) rfl
  refine ae (M.iH L {cls:=.type "slice",data:=.fields #[.none,.int w m,.none]} (t:=b.toks)) λF G=>?_
  refine ae (F.iH L {cls:=.type "list",data:=.seq (slicePick d.toArray none (some w) none)} (t:=b.toks)) λS H=>?_
  refine Z _ _ _ _ _ _ h S (G.trans H) (.hl (vs:=(slicePick d.toArray none (some w) none).toList) (n:=0) ?_ F.away (((hr d f).mono G.ge).mono H.ge));exact .head _
 refine Y (jT h v) ?_;clear h;intro j q h;subst q;refine aL X.inv ?_;clear X;intro m q;subst q;induction j using afw with
 |ofNat T=>
  refine Y (aR (show Nh σ₂ k a T=y from h) v) λl C h=>?_
  refine ae (aS h v) λI h=>?_
  refine ae (ad9.mp I) λg i=>?_
  refine lists rfl C g i (λd f=>?_) h
  rw[show (afs T)=((T:Nat):Int) from rfl,slicePick_upto',vD];exact f.take g _
 |negSucc qa=>
  refine ae (aS (show aN .no (aem qa 0) (Ni σ₂ k a)=y from h) v) λhm h=>?_
  obtain rfl:=aed hm;rcases l8 h with h|⟨l,rfl,h⟩
  ·refine Y (aR h v) λl C h=>?_
   refine ae (aS h v) λI h=>?_
   refine ae (ad9.mp I) λg i=>?_
   refine lists rfl C g i (λd f=>?_) h
   rw[show (Int.negSucc 0)=-((1:Nat):Int) from rfl,slicePick_butLast _ 1 (aeu 1),vD];rw[show d.toArray.size=l.length from ae9.trans (f.len g)];exact f.take g _
  ·refine be (g9 h v) ?_;clear h;intro x r q h;subst q;refine ae (aS h v) λI h=>?_
   refine ae (ad9.mp I) λg i=>?_
   refine aH (eX M N) ?_;clear N;intro x d q R f;subst q;have hlen:d.toArray.size=r.length+1:=ae9.trans (f.len g);have D:IsTup (b.heap.push {cls:=.type "slice",data:=.fields #[.none,.int (-1) m,.none]}) x d.toArray:=R.keeps λu_ o e=>aeh _ e
   refine aiQ (s:={b with heap:=b.heap.push {cls:=.type "slice",data:=.fields #[.none,.int (-1) m,.none]}}) D.typeIs agr.lookup (OW D (ai2 ..) hlen ?_ (ec f g i)) rfl;refine ae (M.iH L {cls:=.type "slice",data:=.fields #[.none,.int (-1) m,.none]} (t:=b.toks)) λF G=>?_
   refine ae (F.iH L {cls:=.type "tuple",data:=.seq (d.toArray.toList.take r.length).toArray} (t:=b.toks)) λS H=>?_
   refine Z _ _ _ _ _ _ h S (G.trans H) (.tup (.head _) F.away ⟨rfl,rfl⟩ rfl ?_);rw[vD];exact (((f.take g r.length).mono G.ge).mono H.ge)
theorem Sq (f:ak c) (g:aE c A o i) (l:aE c A u m):aE c A (.Subscript o (.Slice none (some u) none p) pos) (qD i m):=by
 intro n k y h d s q N E R W Q r;refine Subscript_ (g n _ y h d s q N E R W _ λa z B C D F h t b v=>?_)
 refine wpAny_Slice (ahW (evalPart_some_step ?_));refine l _ _ _ h d _ _ _ _ t (W.step b.kp) _ λj G H I L M h w e x=>ahW ?_
 exact Wc f h d w (v.mono e.ge) x (r.step (b.trans e))
noncomputable def Hl (σ:LS) (k:Kv) (a j:O):Rs:=dR .no j λj=>aN .no (wk j) (cD .no a λl=>gf .no l λc r=>aN .no (yt l) (k (.tup r) σ))
theorem Sr (h:wk j=true):j=((1:Nat):Int):=by
 induction j using afw with
 |ofNat n=>exact congrArg afs (aed h)
 |negSucc=>exact aX h
noncomputable def qE(o u:Ev):Ev:=λc k=>o c λa c=>u c λj c=>Hl c k a j
theorem Ss (i:ak c) (h:Hl σ₂ k a j=y) (f:y≠.no) (m:SR c σ₂ b n q) (B:VR W.kt n q N a) (C:VR W.kt n q P j) {Q:aec->aeg->Prop} (R:fZ c y σ₂ n q k Q): WP W A (ahG o (.Slice (some u) none none p) N (.ref b.heap.objs.size)) Q E {b with heap:=b.heap.push {cls:=.type "slice",data:=.fields #[P,.none,.none]}}:=by
 refine Y (jT h f) ?_;clear h;intro j d h;subst d;refine aL C.inv ?_;clear C;intro v d;subst d;refine ae (aS h f) ?_;clear h;intro S h;obtain rfl:=Sr S;refine Y (dO h f) ?_;clear h;intro l d h;subst d;refine be (g9 h f) ?_;clear h;intro x r d h;subst d;refine ae (aS h f) ?_;clear h f;intro D h;refine ae (ad9.mp D) ?_;clear D;intro w T;refine aH (eX m B) ?_;clear B;intro x z d F g;subst d;have V:z.toArray.size=r.length+1:=ae9.trans (g.len w);have G:IsTup (b.heap.push {cls:=.type "slice",data:=.fields #[.int ((1:Nat):Int) v,.none,.none]}) x z.toArray:=F.keeps λX o e=>aeh _ e
 refine aiQ (s:={b with heap:=b.heap.push {cls:=.type "slice",data:=.fields #[.int ((1:Nat):Int) v,.none,.none]}}) G.typeIs agr.lookup (getItem_tuple_from G (ai2 ..) (aeu 1) (V▸agt 1 _) ?_ (size_le g T)) rfl;refine ae (m.iH i {cls:=.type "slice",data:=.fields #[.int ((1:Nat):Int) v,.none,.none]} (t:=b.toks)) ?_;clear m;intro H I;refine ae (H.iH i {cls:=.type "tuple",data:=.seq (z.toArray.toList.drop 1).toArray} (t:=b.toks)) ?_;clear i;intro L M;refine R _ _ _ _ _ _ h L (I.trans M) (.tup (.head _) H.away ⟨rfl,rfl⟩ rfl ?_);refine aH (g.cj (gB w).1) ?_;clear g w F L;intro qa CC d X Z;subst d;exact ((Z.mono I.ge).mono M.ge)
theorem Su (f:ak c) (g:aE c A o i) (l:aE c A u m):aE c A (.Subscript o (.Slice (some u) none none p) pos) (qE i m):=by
 intro n k y h d s q N E R W Q r;refine Subscript_ (g n _ y h d s q N E R W _ λa z B C D F h t b v=>?_)
 refine wpAny_Slice (evalPart_some_step ?_);refine l _ _ _ h d _ _ _ _ t (W.step b.kp) _ λj G H I L M h w e x=>ahW (ahW ?_)
 exact Ss f h d w (v.mono e.ge) x (r.step (b.trans e))
theorem SR.qF (R:SR c σ s α N) (h:ak c) (j:cL i σ.mark=false) (k:α[i]?=some a) (f:(a,o)∈N) (l:∀ x,σ.st.get (i+1)=some x->i+1<σ.n->(∃ C r,x=.obj C r)->False) (n:aiv a s.heap h') (v:h'.get? a=some o') (w:∀ b,Ge α N α b->OR W α b i o' ao') (p:∀ q,o=afe q->∃ y,o'=afe y:=by intro q e;cases e): ∃ b,SR c (σ.put i ao') {s with heap:=h',toks:=t} α b/\bh σ α N (σ.put i ao') α b:=by
 refine Y R.fr λm F d=>?_
 have z:=R.news _ (aef _ f);refine cJ (R.mod h (ao':=ao') (o':=o') k f (iy j) p l) ?_;clear h k f j p l;intro b u g K;refine eI u.split ?_;clear u;intro G H A B D E;refine (ay b (K (t:=t) d (F.change n z.2.1 z.2.2) ?_ (w b g.ge)) g);rw[B];exact news_set (A▸R.news) D E n v
theorem SR.vv (R:SR c σ s α N) (e:α[i]?=some a) (f:(a,aex vs n)∈N):∀ x,σ.st.get (i+1)=some x->i+1<σ.n->(∃ C b,x=.obj C b)->False:=by
 rintro x d A⟨C,b,rfl⟩;refine aH (R.obj _ _ A d) ?_;clear A d;intro o p q r W;refine ir W.inv ?_;clear W;intro j t u m g h k l g;obtain rfl:=afR h;obtain rfl:=aea (e.symm.trans k);exact absurd (congrArg Obj.cls (R.uniq f l)) (by show ¬ (agw "list" =agw "dict");decide)
@[elab_as_elim]theorem pL (R:SR c σ s α N){g:Type}{z y₀:g}{f:Nat->List O->g}{M:aec->Prop}(j:VR W.kt α N v a) (h:dZ z σ.st a (λi o=>gF z o (f i))=y₀) (e:y₀≠z) (k:∀ i x l vs n,α[i]?=some x->(x,aex (ajl vs) n)∈N->ah W.kt α N vs l->f i l=y₀->M (.ref x)):M v:=
 l9 R j h e λi x b o t m p q A h=>by refine Y (pJ h e) ?_;clear h e q;intro l d h;subst d;refine be A.inv ?_;clear A;intro vs n d r;subst d;exact k i x l vs n m p r h
noncomputable def bT (a:Tr->O->Bool) (p:Prim) (o:Ev) (b:eb):Ev:=λc k=>o c λv c=>aN .no (a c.st v) (b c λl c=>p (v::l) c k)
theorem We (Z:ak c){T:String}{name:Str}{id:String}{i:Tr->O->Bool}{j pos:Pos}{args:List aeD}{l m}(w:eH o=true) (n:args.any aey=false) (x:args.length<30) (q:(j.endLine ==pos.line)=true) (r:∀ {σ:LS}{s:aeg}{α N}{v:O}{val:aec},i σ.st v=true->SR c σ s α N->VR W.kt α N val v->s.TypeIs val T/\∀ a,val=.ref a->∃ o,s.heap.get? a=some o/\o.dict=none) (z:PlainAttrs T) (B:Slot T name id) (C:typeOf (.builtin id)=pure (.type "method_descriptor")) (D:dQ c A (.builtin id) p) (F:aE c A o l) (G:gL c A args m): aE c A (.Call (.Attribute o name j) args [] pos) (bT i p l m):=by
 intro σ k y h d s α N E R b Q H;refine vL w n x q (F σ _ y h d s α N E R b _ λv dj val dk cK bZ h t e f=>?_)
 intro pl;refine ae (aS h d) ?_;clear h;intro u h;refine ae (r u t f) ?_;clear r u;intro I L;refine getMethod_builtin I z B C L ?_;refine eL (P:=λM=>True) n (λq M=>(ay _ (.inr (.inl rfl)) (afV rfl))) ?_
 exact G _ _ y h d _ _ _ _ t (b.step e.kp) pos _ λqa σ₂ vs d0 eh dJ h S g V X=>⟨trivial,D _ _ _ _ h d _ _ _ _ S (b.step (e.trans g).kp) _ (.cons (f.mono g.ge) V) (vJ f X) _ (H.step (e.trans g))⟩
noncomputable def cZ (st:Tr) (v:O):Bool:=aD false (eD st v) λc=>true
theorem QX (h:cZ σ.st v=true) (R:SR c σ s α N) (b:VR W.kt α N val v):s.TypeIs val "list" /\∀ a,val=.ref a->∃ o,s.heap.get? a=some o/\o.dict=none:=by
 refine Y (aR h nofun) ?_;clear h;intro l d f;refine cg (zH R d b) ?_;clear R d b;intro x i n g A f;subst g;exact⟨(ay _ A rfl),λa e=>by cases e;exact (ay _ A rfl)⟩
noncomputable def n4 (st:Tr) (v:O):Bool:=aD false (iF st v) λc=>true
theorem QY (h:n4 σ.st v=true) (R:SR c σ s α N) (b:VR W.kt α N val v):s.TypeIs val "dict" /\∀ a,val=.ref a->∃ o,s.heap.get? a=some o/\o.dict=none:=by
 refine Y (aR h nofun) ?_;clear h;intro f A e;exact kG R b A aO λx g i lo d j e=>⟨d.typeIs,d.mapOf.noDict⟩
noncomputable def th(_:Tr)(v:O):Bool:=afD false v λc=>true
theorem Sv(h:th σ.st v=true)(R:SR c σ s α N)(b:VR W.kt α N val v):s.TypeIs val "str" /\∀ a,val=.ref a->∃ o,s.heap.get? a=some o/\o.dict=none:=by
 refine gE b h nofun λx t d A d=>?_
 exact⟨typeIs_str s _ _,λa e=>by contradiction⟩
noncomputable def dY:Prim:=λl c k=>ou l λa x=>dZ .no c.st a λi o=>gF .no o λl=>rx .no (cL i c.mark) (aN .no (short l) (k .none (c.put i (.list (l++[x])))))
theorem P7 (e:ak c):dQ c A (.builtin "list.append") dY:=by
 intro l H k y h d s I N E R L M q u Q z;refine pV q u h d λa x v w B f h=>?_
 refine pL R B h d λi P l j C b W r h=>?_
 refine ae (sE h d) ?_;clear h;intro m h;refine ae (aS h d) ?_;clear h d;intro D h;refine append_at (n:=C) (R.get W) (λS o p=>?_) (size_le r D)
 refine Y (R.qF e (t:=s.toks) (ao':=.list (l++[x])) m b W (R.vv b W) o p λF g=>by rw[show (j.toArray.push w)=(j++[w]).toArray from List.push_toArray ..];exact .list ((r.app (.cons f .nil)).mono g)) ?_;clear R e m b W o p r f;intro F G g
 exact z _ _ _ _ _ _ h G g .none
noncomputable def qG (l:List O):Option (List O×O):=aeC (motive:=λc=>Option (List O×O)) none (λa c d=>aeT (some ([],a)) (λp=>some (a::p.1,p.2)) d) l
theorem Sw:∀ {p:List O×O},qG l=some p->l=p.1++[p.2]:=by
 induction l with
 |nil=>intro p h;exact aT h
 |cons a l c=>
  intro p h;have h:(aeT (some ([],a)) (λp=>some (a::p.1,p.2)) (qG l):Option (List O×O))=some p:=h
  induction e:qG l using aer with
  |none=>
   rw[e]at h;obtain rfl:=aea h;clear c;induction l using aet with
   |nil=>rfl
   |cons b l=>
    have e:(aeT (some ([],b)) (λp=>some (b::p.1,p.2)) (qG l):Option (List O×O))=none:=e
    cases q:qG l<;>rw[q]at e<;>exact nj e
  |some q=>
   rw[e]at h;obtain rfl:=aea h;exact congrArg (a::·) (c e)
theorem ah.P8:∀ {vs},ah T α N vs (l++[z])->aeS (l++[z])=true->∃ ws v,vs=ws++[v]/\ah T α N ws l/\VR T α N v z:=by
 induction l with
 |nil=> intro vs h p;refine Y (kS h p) ?_;intro v c q;subst c;exact⟨[],v,rfl,.nil,q⟩
 |cons a l d=> intro vs h p;refine aH (ah.cj h (gB p).1) ?_;clear h;intro u e c A r;subst c;refine aH (d r (gB p).2) ?_;clear r p;intro ws v c W b;subst c;exact (bB (u::ws) v rfl (.cons A W) b)
noncomputable def tP:Prim:=λl c k=>hU l λa=>dZ .no c.st a λi o=>gF .no o λl=>rx .no (cL i c.mark) (aN .no (and (short l) (aeS l)) (aD .no (qG l) λp=>k p.2 (c.put i (.list p.1))))
theorem UC (f:ak c):dQ c A (.builtin "list.pop") tP:=by
 intro l P k S h d s T N E R V X x z Q B;refine iw x z h d λa v C h=>?_
 refine pL R C h d λi Z l vs D e W j h=>?_
 refine ae (sE h d) ?_;clear h;intro m h;refine ae (aS h d) ?_;clear h;intro b h;refine ae (ad9.mp b) ?_;clear b;intro b o;refine Y (aR h d) ?_;clear h d;intro p F G;obtain rfl:=Sw F;refine aH (j.P8 o) ?_;clear o;intro q v H r I;subst H;refine Copied.pop_at (n:=D) (R.get W) (y:=v) (by simp) (λh' u w=>?_) (size_le j b)
 refine Y (R.qF f (t:=s.toks) (ao':=.list p.1) m e W (R.vv e W) u w λL g=>by
  rw[show ((q++[v]).toArray.pop)=q.toArray by simp]
  exact .list (r.mono g)) ?_;clear R f m e W u w r;intro L M g
 exact B _ _ _ _ _ _ G M g (I.mono g.ge)
noncomputable def nQ:Prim:=λl c k=>ou l λa x=>dZ .no c.st a λi o=>gF .no o λl=>rx .no (cL i c.mark) (aD .no (eD c.st x) λr=>aN .no (and (short l) (short r)) (k .none (c.put i (.list (l++r)))))
theorem P9 (a x:Array aec) (n:Nat) (d:Option aep) (sl:Array (Option aec)):∃ b,Obj.mapSeq (·++x) {cls:=.type "list",dict:=d,data:=.seq a n,slots:=sl}={cls:=.type "list",dict:=d,data:=.seq (a++x) b,slots:=sl}:=by
 exact⟨if (a++x).size ==a.size then n else n+1,rfl⟩
theorem Qa (o:ak c):dQ c A (.builtin "list.extend") nQ:=by
 intro l X k y h b s Z N E R hE vals C D qa F;refine pV C D h b λa x qb qc G p h=>?_
 refine pL R G h b λqd a l d n j f i h=>?_
 refine ae (sE h b) ?_;clear h;intro q h;refine Y (aR h b) ?_;clear h;intro r u h;refine ae (aS h b) ?_;clear h b;intro v h;refine ae (ad9.mp v) ?_;clear v;intro w H;refine cg (zH R u p) ?_;clear u p;intro I W L M P m;subst M;have z:d.toArray.size+W.toArray.size<=sizeLine:=by rw[ae9,ae9];exact zm w H i m
 have Q:¬(!d.toArray.isEmpty&&ahX (d.toArray.size+W.toArray.size))=true:=by
  rw[show ahX (d.toArray.size+W.toArray.size)=false from decide_eq_false (afk.mpr z),Bool.and_false];exact aeP
 refine aL (P9 d.toArray W.toArray n none #[]) λS e=>?_
 refine ah6 ajp (ay _ (R.get f) rfl) PySem.F.entry_list_extend (PySem.F.args_list_extend_2 _ _) (PySem.AutoSeq1.list_extend_list_list_0 a d.toArray n I W.toArray L Q (size_le i w) (agX z)) (bH (R.get f) P ?_);have B:(s.heap.update a (Obj.mapSeq λx=>x++W.toArray)).get? a=some (aex (d++W).toArray S):=by
  rw[af4 _ (R.get f) (by rw[show aex d.toArray n={cls:=.type "list",dict:=none,data:=.seq d.toArray n,slots:=#[]}from rfl,e];rfl)]
  rw[show aex d.toArray n={cls:=.type "list",dict:=none,data:=.seq d.toArray n,slots:=#[]}from rfl,e];rw[show d.toArray++W.toArray=(d++W).toArray from (List.append_toArray ..)]
 refine Y (R.qF o (t:=s.toks) (ao':=.list (l++r)) q j f (R.vv j f) (agi ..) B λT g=>.list ((i.app m).mono g)) ?_;clear R o q j f B i m;intro T V g
 exact F _ _ _ _ _ _ h V g .none
noncomputable def Wg (l:List O) (dflt:O) (f:O->O->O->Rs):Rs:=aet l .no λa l=>aet l .no λb l=>aet l (f a b dflt) λz l=>aet l (f a b z) λc c=>.no
noncomputable def oN:Prim:=λl c k=>Wg l .none λd x z=>dZ .no c.st d λW o=>ix .no o λA=>afD .no x λx=>k (aeT z (λv=>v) (bw x A)) c
theorem FR (h:aU T α N kvs a) (b:VR T α N w z):VR T α N ((ah5 kvs x).getD w) (aeT z (λv=>v) (bw x a)):=by
 rcases h.find (x:=x) with⟨v,val,c,d,q⟩|⟨c,d⟩
 ·rw[c,d];exact q
 ·rw[c,d];exact b
theorem UD:dQ c A (.builtin "dict.get") oN:=by
 intro l F k y h d s G N E R H I f g Q p;induction l using aet with
 |nil=>exact bO h d
 |cons a l=>induction l using aet with
  |nil=>exact bO h d
  |cons b l=>induction l using aet with
   |nil=>
    refine aH (jV f g) ?_;intro u v i j m;subst i;refine kG R j h d λx q r lo e n h=>gE m h d λo t B C h=>?_
    exact call_meetsIn aip e.typeIs ajD (PySem.F.args_dict_get_2 _ _) (meets_dict_get (ae2 W.prog W.w) _ (agY W.prog W.w o t) lo) ⟨_,e.mapOf,p _ _ _ _ _ _ h R.toks .refl (FR n .none)⟩
   |cons z l=>induction l using aet with
    |nil=>
     refine gC (P4 f g) ?_;clear f g;intro u v w i j m D;subst i;refine kG R j h d λx q r lo e n h=>gE m h d λo t B C h=>?_
     exact call_meetsIn aip e.typeIs ajD (PySem.F.args_dict_get_3 _ _ _) (meets_dict_get_default (ae2 W.prog W.w) _ (agY W.prog W.w o t) lo w) ⟨_,e.mapOf,p _ _ _ _ _ _ h R.toks .refl (FR n D)⟩
    |cons=>exact bO h d
noncomputable def ft(x y:Str):Bool:=PySem.Spec.ltCps x.cps.toList y.cps.toList
noncomputable def Bw (x:Str) (l:List Str):List Str:=aeC (motive:=λd=>List Str) [x] (λa l c=>aen (x::a::l) (a::c) (ft a x)) l
noncomputable def wq (l:List Str):List Str:=aeC (motive:=λc=>List Str) [] (λa c d=>Bw a d) l
noncomputable def Bx (l:List Str):Bool:=aeC (motive:=λd=>Bool) true (λa l c=>and (List.all l λb=>not (ft b a)) c) l
theorem Eo (x:Str):∀ l,(Bw x l).Perm (x::l)
 |[]=>.refl _
 |a::l=>by show (aen (x::a::l) (a::Bw x l) (ft a x):List Str).Perm _;induction ft a x using aee with
  |true=>exact ((Eo x l).cons a).trans (.swap _ _ _)
  |false=>exact .refl _
theorem D8:∀ l,(wq l).Perm l
 |[]=>.refl _
 |a::l=>(Eo a (wq l)).trans ((D8 l).cons a)
theorem FT:∀ {l:List Str},Bx l=true->l.Pairwise λa b=>ft b a=false
 |[],i=>.nil
 |a::l,h=>by
  refine ae (ad9.mp (show and (List.all l λb=>not (ft b a)) (Bx l)=true from h)) ?_;clear h;intro e f
  exact .cons (λb g=>(aeK _).mp (aeB.mp e b g)) (FT f)
theorem Gx:ft x y=decide (x.cps.toList<y.cps.toList):=PyProof.Rows.ltCps_eq _ _
theorem QZ (a:ft y x=false) (b:ft z y=false):ft z x=false:=by
 rw[Gx,decide_eq_false_iff_not]at*;exact λh=>(ajI.negTrans z.cps.toList y.cps.toList x.cps.toList (decide_eq_true h)).elim (λq=>b (of_decide_eq_true q)) λq=>a (of_decide_eq_true q)
theorem Sx (a:ft y x=false)(b:ft x y=false):x=y:=by
 rw[Gx]at a b;have:=ajI.total x.cps.toList y.cps.toList b a;exact congrArg Str.mk (Array.toList_inj.mp this)
theorem zo:∀ {l:List Str}{p:Str},ajJ p l=true->(∀ x∈l,ft x p=false)/\l.Pairwise λa b=>ft b a=false
 |[],p,k=>⟨λx i=>(nomatch i),.nil⟩
 |x::r,p,h=>by
  refine ae (ad9.mp (show and (!PySem.Spec.ltCps x.cps.toList p.cps.toList) (ajJ x r)=true from h)) ?_;clear h;intro e f;refine ae (zo f) ?_;clear f;intro g j;have e:ft x p=false:=(aeK _).mp e;refine⟨λz c=>?_,.cons g j⟩
  rcases aeq.mp c with rfl|c
  ·exact e
  ·exact QZ e (g z c)
theorem Qb:∀ {l:List Str},ajK l=true->l.Pairwise λa b=>ft b a=false
 |[],e=>.nil
 |x::r,h=>.cons (zo (l:=r) (p:=x) h).1 (zo (l:=r) (p:=x) h).2
theorem Q0:∀ {b:List Str},a.Perm b->(a.Pairwise λa b=>ft b a=false)->(b.Pairwise λa b=>ft b a=false)->a=b:=by
 induction a with
 |nil=>exact λp i j=>p.nil_eq
 |cons x r W=>
  intro b p d A;induction b using aet with
  |nil=>exact nomatch p.length_eq
  |cons y t=>
   have f:x∈y::t:=p.mem_iff.mp (.head _);have g:y∈x::r:=p.mem_iff.mpr (.head _);have e:x=y:=by
    rcases aeq.mp f with h|h
    ·exact h
    ·rcases aeq.mp g with c|c
     ·exact c.symm
     ·exact Sx ((ahY.mp d).1 y c) ((ahY.mp A).1 x h)
   subst e;rw[W (List.Perm.cons_inv p) (ahY.mp d).2 (ahY.mp A).2]
noncomputable def strsOf (l:List O):Option (List Str):=aeC (motive:=λc=>Option (List Str)) (some []) (λa c d=>afD none a λx=>aD none d λr=>some (x::r)) l
noncomputable def By (l:List Str):List O:=aeC (motive:=λc=>List O) [] (λx c d=>.str x::d) l
theorem Ep (h:ah T α N vs l):∀ {a:List Str},strsOf l=some a->StrsAre vs a/\∀ x∈a,afg x=true:=ah.ind (P:=λvs l=>∀ {a:List Str},strsOf l=some a->StrsAre vs a/\∀ x∈a,afg x=true)
 (λe=>by cases aea e;exact⟨.nil,λx d=>nomatch d⟩)
 (fun{v b vs f}g _ A{a}e=>by
  have e:afD none b (λx=>aD none (strsOf f) λr=>some (x::r))=some a:=e
  refine gE g e aO λx t c i e=>?_
  refine Y (aR e aO) ?_;clear e;intro r W e;obtain rfl:=aea e;refine ae (A W) ?_;clear A W;intro j k;exact⟨.cons _ t j,λx d=>(aeq.mp d).elim (λe=>e▸i) (k x)⟩)
 (λc c c c c e=>nomatch e) (λc c c c e=>nomatch e) h
theorem FU (r:StrsAre vs a):(∀ x∈a,afg x=true)->ah T α N vs (By a):=by
 induction r with
 |nil=>exact λA=>.nil
 |cons y t W c=>exact λh=>.cons (.str t (h y (.head _))) (c λx d=>h x (.tail _ d))
noncomputable def Wh (n:Nat):Bool:=aeQ n (nat_lit 60)
noncomputable def tj (a:List Str) (σ:LS) (k:Kv):Rs:=aN .no (and (Wh a.length) (Bx (wq a))) (k (.hl (By (wq a))) σ)
noncomputable def sr (a:List (Str×O)):List Str:=aeC (motive:=λc=>List Str) [] (λe c d=>e.1::d) a
noncomputable def nR:Prim:=λl c k=>hU l λa=>aD (aD .no (iF c.st a) λd=>aN .no (keysOk d) (tj (sr d) c k)) (eD c.st a) λl=>aD .no (strsOf l) λA=>tj A c k
theorem EX (h:tj a σ k=y) (b:y≠.no) (g:f.Perm a) (i:ajK f=true):k (.hl (By f)) σ=y:=by
 refine ae (aS h b) ?_;clear h b;intro e h;rw[Q0 (g.trans (D8 a).symm) (Qb i) (FT (ad9.mp e).2)];exact h
theorem Es (h:tj a σ k=y) (b:y≠.no):a.length<64:=by
 refine ae (aS h b) ?_;clear h b;intro e c;have:a.length<=60:=aei (ad9.mp e).1;omega
theorem PK:(sr a).length=a.length:=by
 induction a with
 |nil=>rfl
 |cons e a c=>exact congrArg (·+1) c
theorem Qc (r:aU T α N kvs a):keysOk a=true->(∀ x∈sr a,afg x=true)/\∀ vs:List aec,vs.length=kvs.length->(∀ (j:Nat) (v:aec),vs[j]?=some v->∃ k x,kvs[j]?=some (k,x)/\Value.isStrOf k v=true)->StrsAre vs (sr a):=by
 induction r with
 |nil=>exact λg=>⟨λx d=>(nomatch d),λvs c g=>by induction vs using aet with|nil=>exact .nil|cons=>cases c⟩
 |cons p s A=>
  intro e;refine ae (ad9.mp e) ?_;clear e;intro h W;refine ae (A W) ?_;clear A W;intro i l;refine⟨λx d=>(aeq.mp d).elim (λq=>q▸h) (i x),λvs c b=>?_⟩
  induction vs using aet with
  |nil=>cases c
  |cons v vs=>
   refine be (b 0 v rfl) λk x m f=>?_
   cases aea m
   refine aL (Value.isStrOf_shape f) ?_;clear f;intro t n;subst n;exact .cons _ t (l vs (afR c) λj u o=>b (j+1) u o)
theorem Qd {E:aec->aeg->Prop}{P:Nat->aec->Prop}{f:afd->Prop}{m:Str->Option aec}{Q:aec->aeg->Prop} (K:KdlSrc prog w T r d n P f) (u:A.handled=none) (F:Fr a L s.heap m) (N:agD a L s.heap g) (nB:f s.heap) (i:n<=sizeLine) (h:∀ (D:aep) (h':afd) (tk:Nat) (vs:List aec),Fr a L h' m->agD a L h' ((D,aex vs.toArray 0)::g)->(∀ q∈g,q.1<D)->vs.length=n->(∀ (j:Nat) (v:aec),vs[j]?=some v->P j v)->L<D-> aeF (aeI prog w) A.in1 (call (.builtin "list.sort") [.ref D]) (λb k=>Q (.ref D) k) E {s with heap:=h',toks:=tk}): aeF (aeI prog w) A (call (.builtin "sorted") [.ref r]) Q E s:=by
 refine call_function_entry kind_sorted plain_sorted PyProof.Rows.entry_sorted (args_sorted1 _) ?_;unfold Builtin.«sorted»;refine aeb (m:=checkCount "sorted" 1 1 _) (aeo ?_);refine aeb (kdu_collect (A:=A.in1) K u nB i λh' tk c hk l=>?_)
 have o:c.toList.length=n:=by rw [aiK];exact l.1
 have W:=F.keeps hk;refine aeb (wpAny_newList ?_ (by rw [o];exact i))
 have y:=h h'.objs.size (h'.push {cls:=.type "list",data:=.seq c.toList.toArray}) tk c.toList (W.push _) (News.push W (λp t=>⟨hk _ _ (N p t).1,(N p t).2⟩) _ rfl) (λq z=>aeJ (hk _ _ (N q z).1)) o (λj v e=>l.2 j v (by rw [←Array.getElem?_toList];exact e)) W.ns.lt
 refine aeb (afO (afE y (λb k x=>?_) λb b e=>e))
 exact aeo (ay _ rfl x)
theorem Qe (C:ak c) (hA:aP c d A):dQ c A (.builtin "sorted") nR:=by
 intro qb P qc qd h f m α N qg R hE vals hv a qh Q;refine iw hv a h f λqe qi k h=>?_
 refine Y R.fr λqf F E=>?_
 by_cases G:qd=aD .no (iF P.st qe) λH=>aN .no (keysOk H) (tj (sr H) P qc)
 ·refine Y (aR G.symm f) λH hd h=>?_
  refine ae (aS h f) ?_;clear h;intro S h;refine kG R k hd aO λx es' kvs lo T V Bz=>?_
  obtain rfl:=aea Bz;refine PU (af3.mp T) ?_;clear T;intro b q2 CB ep hxx uG tf sJ iU;have ht:m.heap.DictAt (ai8 W.prog W.w) x _ ep:=(vp b CB q2 hxx uG tf sJ iU);refine ae (Qc V S) ?_;clear S;intro k1 k2;have X:=Es h f;rw[PK]at X;have Nk:=V.len0;refine Qd (kdl_dict (knd:=ai8 W.prog W.w) lo) hA.handled F R.news ht (aev (show _<=1000 by omega) AN) λD i Z j l r bN hvl ie Nm=>?_
  have w:=k2 j hvl ie;have y:i.get? D=some (PyProof.Rows.seqObj "list" j.toArray 0):=(r _ (.head _)).1;refine afL PyProof.Rows.slot_list_sort (ay _ y rfl) PyProof.Rows.entry_list_sort (list_sort_treeK (s:={m with heap:=i,toks:=Z}) strKind_oneLt y w.keysOf (λtQ rf rest e=>keyKind_strs (by rw[←e];exact w)) (by omega) λu a1 a2=>(ay _ rfl ?_)) (PyProof.Rows.args_list_sort _)
  refine cJ (sorted_out_str w a1 a2) ?_;clear w a1 a2;intro ss' b1 b2 b3;have hk:=EX h f b2 b3;refine aL (sortedHeap_at (vs:=j) (out:=(arrOf u).map (·.2)) y) ?_;clear y;intro e he;have I:∀ b o,b≠D->i.get? b=some o->(sortedHeap i D j ((arrOf u).map (·.2))).get? b=some o:=λb o hb q=>(sortedHeap_old hb (aeJ q)).trans q
  have L:=r _ (.head _);have Np:Fr c.h₀ c.L (sortedHeap i D j ((arrOf u).map (·.2))) qf:=⟨l.ns.at' λo q=>I _ o (λz=>L.2.1 z.symm) q,λb o q=>I b o (λz=>by rw[z,L.2.2]at q;exact aT q) (l.keep b o q),l.above⟩
  have B:agD c.h₀ c.L (sortedHeap i D j ((arrOf u).map (·.2))) ((D,aex ((arrOf u).map (·.2)).toList.toArray e)::(N++c.ax)):=λp a=>by
   rcases aeq.mp a with rfl|a
   ·exact⟨by rw[aiw];exact he,L.2⟩
   ·have z:=r p (.tail _ a);exact⟨I _ _ (aeE (bN p a)) z.1,z.2⟩
  have v:D∉(N++c.ax).map (·.1):=λq=>by
   refine Y (aeG.mp q) λp a e=>?_
   exact afx _ (e▸bN p a)
  refine ae (R.vB C (t:=Z) E Np B v Nm) ?_;clear Np Nm;intro M g;exact Q _ _ _ _ _ _ hk M g (.hl (n:=e) (.head _) (λq=>v (by rw[aeO];exact aef _ (R.all _ q))) (FU b1 λx k=>k1 x (b2.mem_iff.mp k)))
 ·refine Y (aR h G) ?_;clear h G;intro qb hl h;refine Y (aR h f) ?_;clear h;intro ss Nq h;refine aH (jS R hl k) ?_;intro x j bj it qa;subst bj;refine ae (Ep qa Nq) ?_;clear qa Nq;intro h1 h2;have X:=Es h f;refine sorted_N_str F R.news it h1 (by have:=StrsAre.length h1;omega) λi CC ss' e l r h3 h4 h5=>?_
  refine Y R.fr λm' abr ez=>?_
  have B:agD c.h₀ c.L i ((m.heap.objs.size+1,aex CC.toArray e)::(N++c.ax)):=r;have hk:=EX h f h4 h5;have v:m.heap.objs.size+1∉(N++c.ax).map (·.1):=λq=>by
   refine Y (aeG.mp q) λp a e=>?_
   have:=aeJ (R.news p a).1;rw[e]at this;exact absurd this (afk.mpr (afY _))
  refine ae (R.vB C (t:=m.toks) E l B v (ae7 F.ns.lt)) ?_;clear C E l B F;intro M g;exact Q _ _ _ _ _ _ hk M g (.hl (n:=e) (.head _) (λq=>v (by rw[aeO];exact aef _ (R.all _ q))) (FU h3 λx k=>h2 x (h4.mem_iff.mp k)))
theorem SR.grow(R:SR c σ s α N)(a:ak c)(k:∀ b o,s.heap.get? b=some o->h'.get? b=some o):SR c σ {s with heap:=h',toks:=t} α N:=R.ext a k
noncomputable def boolsOf (l:List O):Option Bool:=aeC (motive:=λc=>Option Bool) (some true) (λa c d=>i8 none a λb=>aD none d λr=>some (and b r)) l
noncomputable def BA:Prim:=λl c k=>hU l λa=>aD .no (eD c.st a) λl=>aD .no (boolsOf l) λb=>aN .no (short l) (k (.bool b) c)
noncomputable def sO (vs:List aec)(i:Nat):Bool:=match vs[i]? with
 |some (.bool b)=>b
 |_=>false
theorem Pg{f:Nat->Bool}:(afT (n+1)).all f=(f 0&&(afT n).all λi=>f (i+1)):=by
 rw[List.range_succ_eq_map,ahI,List.all_map];rfl
theorem Qf (h:ah T α N vs l):∀ {b:Bool},boolsOf l=some b->(∀ v∈vs,∃ q,v=.bool q)/\(afT vs.length).all (sO vs)=b:=ah.ind (P:=λvs l=>∀ {b:Bool},boolsOf l=some b->(∀ v∈vs,∃ q,v=.bool q)/\(afT vs.length).all (sO vs)=b)
 (λh=>⟨λv d=>(nomatch d),aea h⟩)
 (fun{v a vs f}d _ A{b}e=>by
  have e:i8 none a (λq=>aD none (boolsOf f) λr=>some (and q r))=some b:=e
  refine zj d e aO λq c e=>?_
  refine Y (aR e aO) ?_;clear e;intro r W e;obtain rfl:=aea e;refine ae (A W) ?_;clear A W;intro g i;refine⟨λv d=>(aeq.mp d).elim (λe=>⟨_,e⟩) (g v),?_⟩
  rw[ajq,Pg];exact congrArg (and q) i)
 (λc c c c c e=>nomatch e) (λc c c c e=>nomatch e) h
theorem UE (D:ak c) (F:aP c d A):dQ c A (.builtin "all") BA:=by
 intro l T k y h W s V N E R X Z G H Q f;refine iw G H h W λa v n h=>?_
 refine Y (aR h W) ?_;clear h;intro l p h;refine Y (aR h W) ?_;clear h;intro b u h;refine ae (aS h W) ?_;clear h W;intro hs h;refine aH (jS R p n) ?_;clear p n;intro x g m j r;subst m;refine ae (Qf r u) ?_;clear r u;intro w I;have L:x<s.heap.objs.size:=by refine Y j ?_;clear j;intro o M u_;exact aeJ M
 have P:x≠s.heap.objs.size:=aeE L;refine call_all_walk (ajb j (Pk s.heap.objs.size _ _ _ _ _ (sO g) rfl (Walks.list (A:=A.in1) F.handled s.heap.objs.size x P g.toArray) ⟨(dI _ (aeA _ rfl) rfl rfl),j.at λo e=>aeh _ e⟩ ?_ ?_))
 ·intro i v s Q E B f;have C:g[i]?=some v:=afo.symm.trans B;refine aL (w v (aeM C)) ?_;clear w B;intro q m;subst m;have e:sO g i=q:=by unfold sO;rw[C]
  rw[e]at f;exact afN f
 ·intro h' S hk;rw[ae9,I];refine f _ _ _ _ _ _ h (R.ext D (t:=S) λb o q=>hk b o (λz=>?_) (aeh _ q)) .refl (.bool _)
  have:=ael.mp z;exact absurd (aeJ q) (by rw[this];exact afx _)
noncomputable def zY:Prim:=λl c k=>ou l λa b=>afD .no a λx=>afD .no b λy=>k (.bool (0+y.length<=x.length&&Builtin.Str.subAt x y 0)) c
theorem Qg:dQ c A (.builtin "str.startswith") zY:=by
 intro l m k y h d s n N E R o p e f Q g;refine pV e f h d λa b v w i j h=>gE i h d λx t W W h=>gE j h d λq r W W h=>?_
 exact call_gives ai3 (typeIs_str s _ _) PySem.F.entry_str_startswith (PySem.F.args_str_startswith_2 _ _) (gives_str_startswith _ _ _ _) (g _ _ _ _ _ _ h R .refl (.bool _))
noncomputable def xn (x:Str) (l:List Str):Nat:=aeC (motive:=λd=>Nat) (nat_lit 0) (λa d c=>aen c (afb c) (seq a x)) l
theorem UG (h:StrsAre vs a):vs.countP (aix x)=xn x a:=by
 induction h with
 |nil=>rfl
 |cons y t h c=>
  rw[List.countP_cons,c];show _=(aen (xn x _) (afb (xn x _)) (seq y x):Nat);rw[show aix x (.str y t)=seq y x from seq_eq.symm]
  cases seq y x<;>rfl
noncomputable def Aq:Prim:=λl c k=>ou l λa b=>cD .no a λl=>afD .no b λx=>aD .no (strsOf l) λd=>k (.int (afs (xn x d))) c
noncomputable def AP(_:Tr)(v:O):Bool:=cD false v λc=>true
theorem Sy (h:AP σ.st v=true) (R:SR c σ s α N) (f:VR W.kt α N val v):s.TypeIs val "tuple" /\∀ a,val=.ref a->∃ o,s.heap.get? a=some o/\o.dict=none:=by
 refine Y (dO h nofun) ?_;clear h;intro l g j;subst g;rcases f.inv with⟨a,o,i,n,rfl,d,_,A,_⟩|⟨a,i,n,k,rfl,b,_⟩
 ·exact⟨(ay _ (R.get d) A.1),λa e=>by cases e;exact (ay _ (R.get d) A.2)⟩
 ·exact⟨(ay _ (R.aZ _ _ b) rfl),λa e=>by cases e;exact (ay _ (R.aZ _ _ b) rfl)⟩
theorem Q1:dQ c A (.builtin "tuple.count") Aq:=by
 intro l P k y h d s S N E R q T u B Q C;refine pV u B h d λa b v w i D h=>?_
 refine Y (dO h d) ?_;clear h q;intro l W h;subst W;refine gE D h d λx t F F h=>?_
 refine Y (aR h d) ?_;clear h d;intro V j h;refine aH (eX R i) ?_;clear i;intro a e W m r;subst W;refine ae (Ep r j) ?_;clear r j;intro o X;refine kT m ?_;clear m;intro W p f n g;obtain⟨G,H,I,L⟩:=W;have f:G=_:=f;have g:I=_:=g;subst f g;refine ah6 ajr (ay _ p rfl) PySem.F.entry_tuple_count (PySem.F.args_tuple_count_2 _ _) (PySem.SeqAt.tuple_countAt a e.toArray n H L _ (aix _)) (bH p (λz M=>(eq_isStrOf _ _ o z (List.mem_toArray.mp M)).at _ _) ?_)
 rw[show e.toArray.toList=e from rfl,UG o];exact C _ _ _ _ _ _ h R.toks .refl (.int _ _)
noncomputable def wt:Prim:=λl c k=>ou l λa b=>afD .no a λd=>cD .no b λl=>iR .no l λe=>afD .no e λx=>k (.str x) c
theorem Sz:dQ c A (.builtin "str.join") wt:=by
 intro l H k y h W s I N E R L M m p Q q;refine pV m p h W λa b v w z f h=>gE z h W λg t P S h=>?_
 refine Y (dO h W) ?_;clear h;intro l d;subst d;intro h;refine Y (jb h W) ?_;clear h;intro e d;subst d;intro h;refine Y (gD h W) ?_;clear h W;intro x d;subst d;intro h;refine aH (eX R f) ?_;clear f;intro a T d;subst d;intro B r;refine Y (kS r rfl) ?_;clear r;intro u d;subst d;intro i;refine Y i.inv ?_;clear i;intro C d;subst d;intro D;refine afL ajF (typeIs_str s _ _) PySem.F.entry_str_join ?_ (PySem.F.args_str_join_2 _ _);refine aL (join_tree g t a) λV e=>?_
 rw [e];refine kT B λo j F n G=>?_
 refine aeb (aiu (ay o j F) ?_);rw [if_pos (by decide)]
 refine aeb (agd j G ?_);show aeF _ _ (joinTail g [Value.str x C]) _ _ s;unfold joinTail;dsimp only;rw [if_pos (by rfl)]
 exact aeb (ahj (aeo (ay _ rfl (q _ _ _ _ _ _ h R .refl (.str _ D)))))
noncomputable def LB (i:Int):Option Str:=afw (motive:=λc=>Option Str) i (λn=>dN (aeQ n (nat_lit 5)) (some ⟨#[ahK (nat_lit 48) n]⟩)) λc=>none
theorem SA:∀ n,n<6->agv (toString (afs n))=⟨#[ahK (nat_lit 48) n]⟩/\(afs n).natAbs.log2<1920/\afg ⟨#[ahK (nat_lit 48) n]⟩=true:=by decide +kernel
theorem UH (h:LB i=some x):agv (toString i)=x/\i.natAbs.log2<1920/\afg x=true:=by
 induction i using afw with
 |ofNat n=> refine ae (fR h) ?_;clear h;intro c h;obtain rfl:=aea h;exact SA n (ahn (aei c))
 |negSucc=>exact aT h
noncomputable def mW:Prim:=λl c k=>hU l λa=>dR (afD .no a λx=>k (.str x) c) a λi=>aD .no (LB i) λx=>k (.str x) c
theorem UI:dQ c A (.type "str") mW:=by
 intro l q k y h d s r N E R u w f g Q b;refine iw f g h d λa v W h=>?_
 rcases EI h with h|⟨i,rfl,h⟩
 ·exact gE W h d λx t z j h=>PySem.P.str_of_str (b _ _ _ _ _ _ h R .refl (.str _ j))
 ·refine Y (aR h d) ?_;clear h d;intro x e h;refine bU (UH e) ?_;clear e;intro m n o;refine aL W.inv ?_;clear W;intro t p;subst p;refine PySem.P.str_of_int n ?_;rw[m];exact b _ _ _ _ _ _ h R.toks .refl (.str _ o)
noncomputable def Wi (v:O):Option Bool:=afD (j1 (cD none v λc=>some true) v (some false)) v λc=>some false
noncomputable def sQ (x:Ev):Ev:=λc k=>x c λv c=>aD .no (Wi v) λb=>k (.bool b) c
theorem Q2 (o:ak c){t u pos:Pos}{n w:Nat}{x:aeD}{p}(q:aey x=false) (z:c.scope.names[n]?=some (("isinstance" :Str),aeW)) (B:c.scope.names[w]?=some (("tuple" :Str),aeW)) (a:W.G.boot "isinstance" =true) (C:W.G.boot "tuple" =true) (D:aE c A x p): aE c A (.Call (.Name "isinstance" t) [x,.Name "tuple" u] [] pos) (sQ p):=by
 intro F k y h j s G N E R H Q l;refine Call_ (jX (v:=.builtin "isinstance") o z (by decide) a (by decide +kernel) R ?_)
 refine eL (P:=λg=>True) (by rw [afr,q];rfl) (λS g=>(ay _ (.inr (.inl rfl)) (afV rfl))) ?_
 refine agh (D F _ y h j s G N E R H _ λI T val V X Z h f m i=>?_) (fz q)
 refine agh (jX (v:=.type "tuple") o B (by decide) C (by decide +kernel) f ?_) (fz rfl)
 refine ag6 ⟨trivial,?_⟩;refine Y (aR h j) ?_;clear h j;intro b a h;rcases EH a with a|⟨x,rfl,a⟩
 ·by_cases e:some b=cD none I λg=>some true
  ·refine Y (dO e.symm aO) ?_;clear e;intro qa d e;subst d;obtain rfl:=aea e;refine aH (eX f i) ?_;intro qb vs d r qc;subst d;refine cJ r ?_;clear r;intro qd L M g;exact IsiPair.tuple_tuple L M (l _ _ _ _ _ _ h f m (.bool _))
  ·refine ae (nK a e) ?_;clear a e;intro d a;subst d;obtain rfl:=aea a;rw [show val=.none from i.inv];exact IsiPair.NoneType_tuple (l _ _ _ _ _ _ h f.toks m (.bool _))
 ·obtain rfl:=aea a;refine Y i.inv ?_;clear i;intro qe d g;subst d;exact IsiPair.str_tuple (l _ _ _ _ _ _ h f.toks m (.bool _))
noncomputable def Ar:Prim:=λl c k=>ou l λa b=>G7 .no a λC=>qs .no b λD=>aN .no (aem C D) (k (.bool true) c)
theorem Et:dQ c A (.builtin "isinstance") Ar:=by
 intro l r k y h W s t N E R u x g i Q j;refine pV g i h W λa b v w f m h=>?_
 refine Y (RO h W) ?_;clear h;intro C d h;subst d;refine Y (vq h W) ?_;clear h;intro D d h;subst d;refine ae (aS h W) λe n=>?_
 obtain rfl:=aed e;rw[show w=.ref C from m.inv];refine eI f.inv ?_;clear f;intro a o d p z q;subst d;refine call_isinstance_of ?_ (by intro e;contradiction)
 unfold Builtin.«isinstance.nested»;refine aeb (aeb (ajg (R.get p) (aeo ?_)));rw[q];rw[if_pos (by simp)]
 refine aeb (ahj (aeb (aeo ?_)));exact aeo (j _ _ _ _ _ _ n R .refl (.bool _))
noncomputable def Nr (t:Tc) (b:Sc) (n:Nat):LS->(LS->Rs)->Kv->Rs:=afX (motive:=λd=>LS->(LS->Rs)->Kv->Rs) (λd d d=>.no) (λd W c kn A=>t c λq c=>aen (kn c) (b c (λc=>W c kn A) A) q) n
noncomputable def n7 (t:Tc)(b:Sc):Sc:=Nr t b (nat_lit 60)
theorem Q3 (x:ak c) (z:c.comp=none) (B:aP c d A) (C:dz c A D t) (F:cy c A body k):bQ c A (.While D body [] pos) (n7 t k):=by
 intro l kn G y h b s m N E R H Q I L;refine wpAny_While ?_;refine codeAny_whileLoop (λn o=>∃ W e f,SR c W o e f/\Sts l m N W e f/\Nr t k n W kn G=y) ?_ (nat_lit 60) (dx l m N R .refl h)
 rintro n o⟨W,e,f,M,g,h⟩;induction n using aez with
 |zero=>exact bO h b
 |succ n=>
  have p:=(H.step g.kp).loop x z B;refine C W _ y h b _ _ _ _ M p _ λq T V X Z h r a=>?_
  induction q using aee with
  |false=>
   rw [if_neg (by decide)]
   exact ahh (I _ _ _ _ h r (g.trans a.toSts))
  |true=>
   rw [if_pos rfl];refine F _ _ _ _ h b _ _ _ _ r (p.step a.kp) _ (λu P v w h i j=>?_) λqa u qb P v w h i j S=>?_
   ·exact (QB n (agp n) u v w i ((g.trans a.toSts).trans j) h)
   ·exact L _ _ _ _ _ _ h i ((g.trans a.toSts).trans j) S
noncomputable def oO (n:Nat):Nat->List O:=afX (motive:=λc=>Nat->List O) (λc=>[]) (λc d i=>.int (afs i)::d (afb i)) n
theorem si:∀ {n i:Nat},(oO n i).length=n
 |0,a=>rfl
 |n+1,i=>congrArg (·+1) (si (n:=n) (i:=i+1))
theorem zZ:∀ {n i j:Nat}{a:O},(oO n i)[j]?=some a->a=.int ((i+j:Nat):Int)
 |0,i,j,a,h=>nomatch (show ([]:List O)[j]?=some a from h)
 |n+1,i,0,a,h=>by have b:=aea h;clear h;subst a;rfl
 |n+1,i,j+1,a,h=>by have c:(oO n (i+1))[j]?=some a:=h;rw[zZ c,show i+1+j=i+(j+1)by omega]
theorem Eu{I:aep}{x left step:Int}{E:aec->aeg->Prop}{v:aec}{Q:Unit->aeg->Prop}{s:aeg}(a:IsRangeIter s.heap I x left step) (h:Q () s): WP W A (agP target (.ref I) v) Q E s:=by
 unfold agP;induction target using afB<;>first
  |exact aeo h
  |(induction v using aff<;>first
   |exact aeo h
   |exact aeb (ajg a (aeo h)))
noncomputable def qH (a:Tg) (e:Ev) (b:Sc):Sc:=λc kn d=>e c λv c=>dR .no v λi=>afw (motive:=λA=>Rs) i (λn=>aN .no (aeQ n (nat_lit 1000)) (ew a b (oO n (nat_lit 0)) c kn d)) λA=>.no
theorem D9 (a:ak c) {σ:LS} {s:aeg} (R:SR c σ s α N) {n:Nat} {t:Tok} (g:n<=1000) {Q:aec->aeg->Prop} {E}
  (k:∀ (I:aep) (h':afd) (tk:Nat),SR c σ {s with heap:=h',toks:=tk} α N->(∀ b o,s.heap.get? b=some o->h'.get? b=some o)->(∃ o,h'.get? I=some o)->s.heap.objs.size<=I->IsRangeIter h' I (0+((0:Nat):Int)*1) ((n:Int)-((0:Nat):Int)) 1->Q (.ref I) {s with heap:=h',toks:=tk}):
  WP W A (call (.type "range") [.int (n:Int) t]) (λx f=>WP W A (ait x) Q E f) E s:=by
 refine call_range_1 ?_
 refine wpAny_pyIter_range (IsRange.new ..) (small_one (by decide) (by decide) (by omega) (by omega)) ?_
 have hk:∀ b o,s.heap.get? b=some o->((s.heap.push {cls:=.type "range",data:=.fields #[.int 0 s.toks,.int n t,.int 1 (s.toks+1)]}).push {cls:=.type "range_iterator",data:=.fields #[ae6 0,ae6 (ajz 0 n 1),ae6 1]}).get? b=some o:=λb o q=>aeh _ (aeh _ q)
 refine k _ _ _ (R.ext a (t:=s.toks+1+1) hk) hk ⟨_,aeA _ rfl⟩ (by rw [af0];exact afY _) ?_
 have e:ajz 0 (n:Int) 1=(n:Int)-((0:Nat):Int):=by
  rw [rangeSize_one]
  split<;>omega
 rw [←e]
 exact aeA _ rfl
theorem SD (k:ak c) (L:c.comp=none) (u:aP c d A){target e:aeD}{body:List afu}{N S pos:Pos}{T:Nat}{m:Tg}{x:Ev}{o:Sc}(z:aey e=false) (V:c.scope.names[T]?=some (("range" :Str),aeW)) (a:W.G.boot "range" =true)
  (X:aE c A e x) (Z:∀ M,(∀ p∈c.ax,p∈M)->kb (c.with M) A target m) (ij:∀ M,(∀ p∈c.ax,p∈M)->cy (c.with M) A body o):
  bQ c A (.For target (.Call (.Name "range" N) [e] [] S) body [] pos) (qH m x o):=by
 intro σ kn kr y h f s α qa E R l Q cW cX
 refine wpAny_For ?_ (pS rfl c.env)
 refine Call_ (jX (v:=.type "range") k V (by decide) a (by decide +kernel) R ?_)
 refine eL (P:=λB=>True) (by rw [afr,z];rfl) (λC B=>(ay _ (.inr (.inl rfl)) (afV rfl))) ?_
 refine agh (X σ _ y h f s α qa E R l _ λD dj val dk cK bZ h F q hv=>?_) (fz z)
 refine ag6 ⟨trivial,?_⟩
 have X6:=l.step q.kp
 have AQ:=cW.step q.toSts
 have X7:=cX.step q.toSts
 refine i3 hv h f λg t B h=>?_
 induction g using afw with
 |negSucc=>exact bO h f
 |ofNat j=>
  refine ae (aS (show aN .no (aeQ j 1000) (ew m o (oO j 0) dj kn kr)=y from h) f) ?_;clear h;intro r h
  have r:j<=1000:=aei r
  refine D9 k F r λI h' tk cA hk G f5 hit=>?_
  have KT:=agq (target:=target) (Walks.range (prog:=W.prog) (w:=W.w) (A:=A) u.handled I 0 1 j) λg D s Q E st qb=>Eu (W:=W) st qb
  rw [←si (n:=j) (i:=0)] at KT
  refine aL G ?_;clear G;intro qc ho
  have bW:=F.own k (own:=[(I,qc)]) (t:=tk) hk (λp C=>by rw [ael.mp C];exact ⟨ho,f5⟩) (by simp)
  refine sh k L u KT ij bW (by simpa [si] using hit) (λb a=>by simpa using a) (λg h st b a=>?_) (λb a=>.inl (by simpa using a)) (λM hM g D qd bu s' bG N' ha H R' qe qf y h f E l Q hQ=>?_) h f X6 AQ X7
  ·have ig:b=I:=by simpa using a
   subst ig
   exact ⟨_,st⟩
  ·refine aL H ?_;clear H;intro t' bj;subst bj
   have e:=zZ ha
   subst e
   rw [show (0:Int)+(g:Int)*1=((0+g:Nat):Int) by omega]
   exact Z M hM _ _ _ _ h f _ _ _ _ _ R' l (.int _ _) Q hQ
end
open PySem.AutoSeq1 (wpAny_loadPart')
section
variable{prog:ae0}{w:afh}{A:aeX}{E:aec->aeg->Prop}{s:aeg}
theorem OX {Q:aec->aeg->Prop}(d:s.heap.IsTupleIter a t i) (e:s.heap.IsTuple t f) (g:f[i]?=some x) (h:∀ h',h'.IsTupleIter a t (i+1)->aiv a s.heap h'->Q x {s with heap:=h'}):aeF (aeI prog w) A (afv (.ref a)) Q E s:=by
 refine cJ (id d) λo c j b=>?_
 refine kT e ?_;clear e;intro m k p n l;unfold afv;refine aeb (afI (name:=agv "__next__") d.typeIs agW (afL agW d.typeIs ai4 ?_ (aiS _)));show aeF _ _ (field (.ref a) 0 >>=_) _ _ s;refine aeb (ae3 c b (x:=.ref t) rfl ?_);show aeF _ _ (if (afi t ==agc)=true then _ else _) _ _ s;rw[if_neg (show ¬ ((afi t ==agc)=true) from aeP)];show aeF _ _ (field (.ref a) 1 >>=_) _ _ s;refine aeb (ae3 c b (x:=.int i 0) rfl ?_);show aeF _ _ (seqItems? (.ref t) >>=_) _ _ s;refine aeb (agd k l ?_);simp only[ajc,g];refine aeb (ag3 c b (by simp) (aeo (ay x rfl (aeo (h _ ?_ (agi ..))))))
 exact (dI _ (af4 _ c (ahs (af9 b _))) ((Obj.cls_mapFields ..).trans j) (by rw[af9 b];simp[ae6]))
theorem O5 {Q:aec->aeg->Prop}(g:A.handled=none) (c:s.heap.IsTupleIter b t i) (h:s.heap.IsTuple t j) (k:j[i]?=none) (l:∀ h' e,aiW b s.heap h'->(∃ o,h'.get? e=some o/\o.cls=.type "StopIteration")->E (.ref e) {s with heap:=h'}):aeF (aeI prog w) A (afv (.ref b)) Q E s:=by
 refine cJ (id c) λo d r f=>?_
 refine kT h ?_;clear h;intro u p v n q
 unfold afv
 refine aeb (afI (name:=agv "__next__") c.typeIs agW (afL agW c.typeIs ai4 ?_ (aiS _)))
 show aeF _ _ (field (.ref b) 0 >>=_) _ _ s
 refine aeb (ae3 d f (x:=.ref t) rfl ?_)
 show aeF _ _ (if (afi t ==agc)=true then _ else _) _ _ s
 rw [if_neg (show ¬ ((afi t ==agc)=true) from aeP)]
 show aeF _ _ (field (.ref b) 1 >>=_) _ _ s
 refine aeb (ae3 d f (x:=.int i 0) rfl ?_)
 show aeF _ _ (seqItems? (.ref t) >>=_) _ _ s
 refine aeb (agd p q ?_)
 simp only [ajc,k]
 refine aeb (ahj (aeb (ag3 d f (by simp) ?_)))
 show aeF _ _ (newExc (.type "StopIteration") [] >>=_) _ _ _
 refine aeb ?_
 simp only [newExc,newTuple]
 refine aeb (afH ?_ (by size_fits))
 refine aeb (m:=aiT _ _) (agK (a:=agc) (by first|rfl|(simp only [aiT];rfl)) ?_)
 refine afH ?_ (by size_fits)
 simp only [raiseNew]
 refine aeb (wpAny_handled ?_)
 first|rw [show A.in1.handled=none from g]|rw [g]
 refine aeb (aeo (wpAny_throw ?_))
 exact l _ _ (((agi ..).extBut.push _).push _) (ay _ (aeA _ rfl) rfl)
theorem pM (g:A.handled=none) (a t:aep) (j:t≠a) (c:Array aec): ahB prog w A a [a,t] c.size (λi v=>c[i]?=some v) (λi h=>h.IsTupleIter a t i/\h.IsTuple t c) where
 live:=λb b st=>(Y (st.1) λo k b=>⟨o,k⟩)
 frame:=λb b b st hk=>⟨st.1.at λo e=>hk a (by simp) o e,st.2.at λo e=>hk t (by simp) o e⟩
 item:=λi s Q E d st l=>OX st.1 st.2 (x:=c[i]) (by simp [d]) λm n f=>l _ m s.toks (by simp [d]) ⟨n,st.2.extBut f.extBut j⟩ f
 done:=λs Q E st p=>O5 g st.1 st.2 (by simp) p
theorem O6 (t:aep) (b:Array aec) (n:Nat) (e:Option aep) (sl:Array (Option aec)):
  Meets (Builtin.«enumerate.__new__» ⟨[.type "enumerate",.ref t],[]⟩) (λj R s=>s.heap.get? t=some {cls:=.type "tuple",dict:=e,data:=.seq b n,slots:=sl}/\
   R (.ok (.ret (.ref (s.heap.push {cls:=.type "tuple_iterator",data:=.fields #[.ref t,.int 0 0]}).objs.size)))
    {s with heap:=(s.heap.push {cls:=.type "tuple_iterator",data:=.fields #[.ref t,.int 0 0]}).push {cls:=.type "enumerate",data:=.fields #[.none,.bool false,.ref s.heap.objs.size,ae6 0,.none,.none]}}):=
 .of_wp λprog w A R s h=>by
  obtain ⟨f,g,d,i,os⟩:=s;refine ae h ?_;clear h;intro E h;have k:=sub_enumerate;have a:Heap.IsTuple (Shared.heap ⟨f,g,d,i,os⟩) t b:=(fC _ E rfl n rfl);wp_walk using aiy E;refine wpAny_stack_any λst=>aeo ?_
  split
  ·rename_i c _ _ _ _ _
   cases (c ==agw "enumerate")
   ·wp_walk using aiy E,aga a;exact (ay _ rfl h)
   ·wp_walk using aiy E,aga a;exact (ay _ rfl h)
  ·wp_walk using aiy E,aga a;exact (ay _ rfl h)
theorem Pb {Q:aec->aeg->Prop}(f:s.heap.IsTuple t g)
  (h:∀ h',IsEnum h' (s.heap.objs.size+1) s.heap.objs.size 0 .none->h'.IsTupleIter s.heap.objs.size t 0->h'.objs.size=s.heap.objs.size+2->(∀ b o,s.heap.get? b=some o->h'.get? b=some o)->Q (.ref (s.heap.objs.size+1)) {s with heap:=h'}):
  aeF (aeI prog w) A (call (.type "enumerate") [.ref t]) Q E s:=by
 refine kT f ?_;clear f;intro j k a n d;obtain ⟨c,l,dt,m⟩:=j
 replace a:c=.type "tuple" :=a
 replace d:dt=.seq g n:=d
 subst a d
 refine callType_new F.called_enumerate (by decide) (F.typeCall_enumerate_1 _) (F.newCall_enumerate_1 _) (λp=>F.args_object_init_2 p _) F.entry_enumerate_new (O6 t g n l m) ⟨k,?_⟩
 have e:(s.heap.push {cls:=.type "tuple_iterator",data:=.fields #[.ref t,.int 0 0]}).objs.size=s.heap.objs.size+1:=af0 ..
 show _/\_
 rw [e]
 have i:IsEnum ((s.heap.push {cls:=.type "tuple_iterator",data:=.fields #[.ref t,.int 0 0]}).push {cls:=.type "enumerate",data:=.fields #[.none,.bool false,.ref s.heap.objs.size,ae6 0,.none,.none]}) (s.heap.objs.size+1) s.heap.objs.size 0 .none:=by
  have:=aeA (s.heap.push {cls:=.type "tuple_iterator",data:=.fields #[.ref t,.int 0 0]}) (o:={cls:=.type "enumerate",data:=.fields #[.none,.bool false,.ref s.heap.objs.size,ae6 0,.none,.none]}) rfl
  rw [e]at this;exact this
 exact ⟨(ay _ i rfl),h _ i (dI _ (aeh _ (aeA _ rfl)) rfl rfl) (by rw [af0,e]) λb o x=>aeh _ (aeh _ x)⟩
end
open PySem.AutoSeq1 (wpAny_loadPart')
structure lO(z TI TO i1 i2:aep)(fM fN:List aep):Prop where
 TIz:TI≠z
 TOz:TO≠z
 TITO:TI≠TO
 z1:z∉fM
 z2:z∉fN
 CD:TO∉fM
 CE:TO∉fN
 CF:TI∉fM
 CG:TI∉fN
 pk:i1∈fM
 rC:i2∈fN
 i12:i1∉fN
 i21:i2∉fM
section
variable{prog:ae0}{w:afh}{A:aeX}{E:aec->aeg->Prop}{s:aeg}{z TI TO i1 i2:aep}{fM fN:List aep}{n1 n2:Nat}{P1 P2:Nat->aec->Prop}{gX gY:Nat->afd->Prop}
theorem iZ{l:List aep}(h:a∉l)(h':b∈l):a≠b:=λe=>h (e▸h')
theorem iB{P:Nat->aec->Prop}{St:Nat->afd->Prop}(D:ahB prog w A f a n P St)(st:St i h)(c:aiv x h h')(d:x∉a):St i h':=
 D.frame _ _ _ st λb s o e=>(c.2 b (λq=>d (q▸s))).trans e
theorem SE (g:ahB prog w A i1 fM n1 P1 gX) (h:ahB prog w A i2 fN n2 P2 gY) (Z:lO z TI TO i1 i2 fM fN) {a b:aec}{Q:aec->aeg->Prop} (i:agQ s.heap z TI TO .none) (W:afC s.heap TI (.ref i1) (.ref i2)) (X:afC s.heap TO a b) (h1:gX k s.heap) (h2:gY k s.heap) (rD:k<n1) (jy:k<n2) (hQ:∀ h' tk x y,P1 k x->P2 k y->agQ h' z TI TO (ae6 s.heap.objs.size)->afC h' TO x y->gX (k+1) h'->gY (k+1) h'->afC h' s.heap.objs.size x y-> (∀ c o,c≠z->c≠TO->c≠i1->c≠i2->s.heap.get? c=some o->h'.get? c=some o)->Q (.ref s.heap.objs.size) {s with heap:=h',toks:=tk}): aeF (aeI prog w) A (Builtin.«zip.__next__» ⟨[.ref z],[]⟩) (λfin s'=>∃ v,fin=.done (.ret v)/\Q v s') E s:=by
 have i1z:z≠i1:=iZ Z.z1 Z.pk;have i2z:z≠i2:=iZ Z.z2 Z.rC;have TOi1:TO≠i1:=iZ Z.CD Z.pk;have TOi2:TO≠i2:=iZ Z.CE Z.rC;have TIi1:TI≠i1:=iZ Z.CF Z.pk;have TIi2:TI≠i2:=iZ Z.CG Z.rC;have zlt:z<s.heap.objs.size:=aeJ i;show aeF _ _ (field (.ref z) 2 >>=_) _ _ _;refine aeb (ae3 i rfl (x:=.bool false) rfl ?_);show aeF _ _ (field (.ref z) 3 >>=_) _ _ _;refine aeb (ae3 i rfl (x:=.ref TI) rfl ?_);refine aeb (agd W rfl ?_);show aeF _ _ (afp (.ref z) >>=_) _ _ _;refine aeb ?_;unfold afp;refine aeb (ae3 i rfl (x:=.none) rfl (aeo ?_));simp only[if_true];refine aeb (ahj ?_);refine aeb (ae3 i rfl (x:=.ref TO) rfl ?_);refine aeb (agN i (by simp) λhY D j=>?_)
 replace D:agQ hY z TI TO .ellipsis:=D;refine aeb ?_;simp only[List.zipIdx_cons,List.zipIdx_nil,aiz,List.forIn_nil];refine aeb (aeb (ai9 ?_));show aeF _ _ (afv (.ref i1) >>=_) _ _ _;refine aeb (g.item k _ _ _ rD (iB g h1 j Z.z1) λx mX X8 hx yu l=>aeo ?_)
 have M:afC mX TO a b:=l.extBut _ _ TOi1 (j.extBut _ _ Z.TOz X);refine aeb (agd M rfl ?_);refine aeb (wpAny_updateSeq_pair M λdK F m=>?_)
 replace F:afC dK TO x b:=F;refine aeb (wpAny_letGo (aeo ?_));refine aeb (aeb (ai9 ?_));show aeF _ _ (afv (.ref i2) >>=_) _ _ _;refine aeb (h.item k _ _ _ jy (iB h (iB h (iB h h2 j Z.z2) l Z.i12) m Z.CE) λy eQ adT hy Nt n=>aeo ?_)
 have N:afC eQ TO x b:=n.extBut _ _ TOi2 F;refine aeb (agd N rfl ?_);refine aeb (wpAny_updateSeq_pair N λd r p=>?_)
 replace r:afC d TO x y:=r;refine aeb (wpAny_letGo (aeo (aeo ?_)));refine aeb (agd r rfl ?_);refine aeb (wpAny_newTuple ?_);have ec:d.objs.size=s.heap.objs.size:=by rw[p.1,n.1,m.1,l.1,j.1]
 have P:agQ d z TI TO .ellipsis:=p.extBut _ _ Z.TOz.symm (n.extBut _ _ i2z (m.extBut _ _ Z.TOz.symm (l.extBut _ _ i1z D)));have UJ:∀ c o,c≠z->c≠TO->c≠i1->c≠i2->s.heap.get? c=some o->d.get? c=some o:=λc o f t G H e=>p.extBut _ _ t (n.extBut _ _ H (m.extBut _ _ t (l.extBut _ _ G (j.extBut _ _ f e))))
 have s1:gX (k+1) d:=iB g (iB g (iB g yu m Z.CD) n Z.i21) p Z.CD;have s2:gY (k+1) d:=iB h Nt p Z.CE;have R:z<d.objs.size:=aeJ P;show aeF _ _ (ahZ (.ref z) (.ref d.objs.size) >>=_) _ _ _;refine aeb ?_;unfold ahZ;have X9:agQ (d.push {cls:=.type "tuple",data:=.seq #[x,y]}) z TI TO .ellipsis:=aeh _ P;refine aeb (agN X9 (by simp) λtR I S=>?_)
 replace I:agQ tR z TI TO (ae6 d.objs.size):=I;refine agN I (by simp) λu B T=>?_
 replace B:agQ u z TI TO (ae6 d.objs.size):=B;have C:∀ c o,c≠z->d.get? c=some o->u.get? c=some o:=λc o f e=>T.extBut _ _ f (S.extBut _ _ f (aeh _ e))
 have V:afC u d.objs.size x y:=T.extBut _ _ (agl R) (S.extBut _ _ (agl R) (aeA _ rfl));refine aeo (ay _ rfl ?_);show Q (.ref d.objs.size) _;rw[ec]at B V ⊢;exact hQ u _ x y hx hy B (C _ _ Z.TOz r) (g.frame _ _ _ s1 λc L o e=>C c o (λq=>Z.z1 (q▸L)) e) (h.frame _ _ _ s2 λc L o e=>C c o (λq=>Z.z2 (q▸L)) e) V λc o f t G H e=>C c o f (UJ c o f t G H e)
theorem UK (i:ahB prog w A i1 fM n1 P1 gX) (L:ahB prog w A i2 fN n2 P2 gY) (Z:lO z TI TO i1 i2 fM fN) {a b:aec}{Q:Fin->aeg->Prop} (d:agQ s.heap z TI TO .none) (v:afC s.heap TI (.ref i1) (.ref i2)) (M:afC s.heap TO a b) (y:gX k s.heap) (N:gY k s.heap) (hk:k=n1) (jy:k<=n2) (B:∀ h' tk e,(∀ c o,c≠z->c≠TO->c≠i1->c≠i2->s.heap.get? c=some o->h'.get? c=some o)->(∃ o,h'.get? e=some o/\o.cls=.type "StopIteration")->E (.ref e) {s with heap:=h',toks:=tk}): aeF (aeI prog w) A (Builtin.«zip.__next__» ⟨[.ref z],[]⟩) Q E s:=by
 have C:z≠i1:=iZ Z.z1 Z.pk;show aeF _ _ (field (.ref z) 2 >>=_) _ _ _;refine aeb (ae3 d rfl (x:=.bool false) rfl ?_);show aeF _ _ (field (.ref z) 3 >>=_) _ _ _;refine aeb (ae3 d rfl (x:=.ref TI) rfl ?_);refine aeb (agd v rfl ?_);show aeF _ _ (afp (.ref z) >>=_) _ _ _;refine aeb ?_;unfold afp;refine aeb (ae3 d rfl (x:=.none) rfl (aeo ?_));simp only[if_true];refine aeb (ahj ?_);refine aeb (ae3 d rfl (x:=.ref TO) rfl ?_);refine aeb (agN d (by simp) λD g j=>?_)
 replace g:agQ D z TI TO .ellipsis:=g;refine aeb ?_;simp only[List.zipIdx_cons,List.zipIdx_nil,aiz,List.forIn_nil];refine aeb (aeb (ai9 ?_));show aeF _ _ (afv (.ref i1) >>=_) _ _ _;subst hk;refine aeb (i.done _ _ _ (iB i y j Z.z1) λF e l m=>?_)
 refine Y m ?_;clear m;intro n f p;have q:agQ F z TI TO .ellipsis:=l _ _ C g;have G:e≠z:=λh=>by subst h;rw[q]at f;have P:=aea f;clear f;subst n;simp at p
 refine agN q (by simp) λH r t=>B H s.toks e (λc o u r I r h=>t.extBut _ _ u (l _ _ I (j.extBut _ _ u h))) (ay n (t.extBut _ _ G f) p)
theorem DM (f:ahB prog w A.in1 i1 fM n1 P1 gX) (g:ahB prog w A.in1 i2 fN n2 P2 gY) (Z:lO z TI TO i1 i2 fM fN) {Q:Option aec->aeg->Prop} (d:agQ s.heap z TI TO .none) (h:afC s.heap TI (.ref i1) (.ref i2)) (i:afC s.heap TO a b) (j:gX k s.heap) (l:gY k s.heap) (rD:k<n1) (jy:k<n2) (m:∀ h' tk x y,P1 k x->P2 k y->agQ h' z TI TO (ae6 s.heap.objs.size)->afC h' TO x y->gX (k+1) h'->gY (k+1) h'->afC h' s.heap.objs.size x y-> (∀ c o,c≠z->c≠TO->c≠i1->c≠i2->s.heap.get? c=some o->h'.get? c=some o)->Q (some (.ref s.heap.objs.size)) {s with heap:=h',toks:=tk}): aeF (aeI prog w) A (aih (.ref z)) Q E s:=by
 have e:s.TypeIs (.ref z) "zip" :=(ay _ d rfl);unfold aih;exact aeb (ahJ (afI (name:=agv "__next__") e ahk (afL ahk e ajs (SE f g Z d h i j l rD jy λh' tk x y n p q r t u v B=>aeo (m h' tk x y n p q r t u v B)) (ajd _))))
theorem DN (h:ahB prog w A.in1 i1 fM n1 P1 gX) (i:ahB prog w A.in1 i2 fN n2 P2 gY) (Z:lO z TI TO i1 i2 fM fN) {Q:Option aec->aeg->Prop} (d:agQ s.heap z TI TO .none) (j:afC s.heap TI (.ref i1) (.ref i2)) (l:afC s.heap TO a b) (m:gX k s.heap) (n:gY k s.heap) (hk:k=n1) (jy:k<=n2) (p:∀ h' tk,(∀ c o,c≠z->c≠TO->c≠i1->c≠i2->s.heap.get? c=some o->h'.get? c=some o)->Q none {s with heap:=h',toks:=tk}):aeF (aeI prog w) A (aih (.ref z)) Q E s:=by
 have f:s.TypeIs (.ref z) "zip" :=(ay _ d rfl);unfold aih;refine aeb (ahJ (afI (name:=agv "__next__") f ahk (afL ahk f ajs (UK h i Z d j l m n hk jy λh' tk e q g=>?_) (ajd _))))
 refine Y g ?_;clear g;intro o r t;refine aeb (aik (T:= "StopIteration") (b:=true) (ay o r t) isSubtype_stop ?_);exact aeo (p _ _ q)
theorem SF (t:ahB prog w A.in1 i1 fM n1 P1 gX) (u:ahB prog w A.in1 i2 fN n1 P2 gY) (Z:lO z TI TO i1 i2 fM fN){pos:Pos}:
  KTurns prog w A (.Tuple elts kk pos) z (z::TI::TO::(fM++fN)) [z,TO,i1,i2] n1
   (λi v h=>∃ T x y,v=.ref T/\P1 i x/\P2 i y/\afC h T x y)
   (λi v h=>∃ T x y a b,v=.ref T/\P1 i x/\P2 i y/\afC h T x y/\T≠z/\agQ h z TI TO (ae6 T)/\afC h TI (.ref i1) (.ref i2)/\afC h TO a b/\gX (i+1) h/\gY (i+1) h)
   (λi h=>∃ a b,agQ h z TI TO .none/\afC h TI (.ref i1) (.ref i2)/\afC h TO a b/\gX i h/\gY i h) where
 sub:=λb j=>by
  have H:=Z.pk;have I:=Z.rC;simp at j ⊢;rcases j with rfl|rfl|rfl|rfl
  ·exact .inl rfl
  ·exact .inr (.inr (.inl rfl))
  ·exact .inr (.inr (.inr (.inl H)))
  ·exact .inr (.inr (.inr (.inr I)))
 frame:=λi h k st hk=>by
  refine kI st ?_;clear st;intro a b l m p f g;exact (vx a b (hk z (by simp) _ l) (hk TI (by simp) _ m) (hk TO (by simp) _ p) (t.frame _ _ _ f λb j=>hk b (by simp [j])) (u.frame _ _ _ g λb j=>hk b (by simp [j])))
 item:=λi s Q E F st r=>by
  refine kI st ?_;clear st;intro a b l m p f g;refine DM t u Z l m p f g F F λk B x y C D L M N P R hk=>?_
  have S:TI≠i1:=iZ Z.CF Z.pk;have V:TI≠i2:=iZ Z.CG Z.rC;exact r _ k B (O2 _ x y x y rfl C D R (agl (aeJ l)) L (hk _ _ Z.TIz Z.TITO S V m) M N P) λc o d e=>hk c o (λq=>d (by simp [q])) (λq=>d (by simp [q])) (λq=>d (by simp [q])) (λq=>d (by simp [q])) e
 go:=λi v s Q E G r=>by
  refine O0 G ?_;clear G;intro T x y a b W C D X eS hz CH CI f g;subst W;refine wpAny_letOwnedTupleGo_zip hz λk hz' n=>?_
  exact r k (l7 T x y rfl C D (n.extBut _ _ eS X)) (vx a b hz' (n.extBut _ _ Z.TIz CH) (n.extBut _ _ Z.TOz CI) (iB t f n Z.z1) (iB u g n Z.z2)) λc o d e=>n.extBut _ _ (λq=>d (by simp [q])) e
 done:=λs Q E st r=>by
  refine kI st ?_;clear st;intro a b l m p f g;exact DN t u Z l m p f g rfl (aeu _) λk B hk=>r k B λc o d e=>hk c o (λq=>d (by simp [q])) (λq=>d (by simp [q])) (λq=>d (by simp [q])) (λq=>d (by simp [q])) e
end
theorem Po{R:aif->aeg->Prop}(I:Nat->aeg->Prop)
  (B:∀ n s,I n s->aeF (aeI prog w) A (aih g) (λr i=>match r with
   |none=>R (.ok .next) i
   |some v=>aeF (aeI prog w) A (agP target g v) (λa k=>aeF (aeI prog w) A (aie target env v) (λa l=>
    aeF (aeI prog w) A (forIn o true λc r=>if r=true then do let f←isTrue c env (eval c env);pure (ahl f) else pure (ahl r)) (λf j=>
     if f=true then aeF (aeI prog w) A (eval p env) (λx q=>
      aeF (aeI prog w) A (call (.builtin "list.append") [t,x]) (λa u=>∃ m,m<n/\I m u) (aio (aeI prog w) A env λe b=>R (.error e) b) q) (aio (aeI prog w) A env λe b=>R (.error e) b) j
     else ∃ m,m<n/\I m j) (aio (aeI prog w) A env λe b=>R (.error e) b) l) (aio (aeI prog w) A env λe b=>R (.error e) b) k) (aio (aeI prog w) A env λe b=>R (.error e) b) i) (aio (aeI prog w) A env λe b=>R (.error e) b) s)
  (n:Nat) (h:I n s):agb (aeI prog w) A (.compLoop (.ListComp p [⟨target,C,o,0⟩] scope pos) 0 g t env) R s:=by
 refine codeAny_loop rfl I (λn s D=>?_) n h
 show aeF _ A ((compTurn (.ListComp p [⟨target,C,o,0⟩] scope pos) 0 g t env).onRaise (λx=>do noteFrame x env;theTreesLotGoes x)) _ _ s
 refine wpAny_noted ?_;rw [compTurn_list];refine aeb (ahF (aeb (afE (B n s D) (λr i y=>?_) λa a d=>d)))
 induction r using aer with
 |none=>exact aeo y
 |some v=>
  refine aeb (afE y (λa k E=>?_) λa a d=>d)
  refine aeb (afE E (λa l F=>aeb (afE F (λf j z=>?_) λa a d=>d)) λa a d=>d)
  induction f using aee with
  |false=>exact aeo ⟨rfl,z⟩
  |true=>exact aeb (aeb (afE z (λx q G=>aeb (afE G (λa u H=>aeo (aeo ⟨rfl,H⟩)) λa a d=>d)) λa a d=>d))
noncomputable def gQ (cells:List (Str×aep)):List (Str×afm)->List (Str×aep)->List (Str×aep)
 |[],cs=>cs
 |(x,k)::r,cs=>gQ cells r (if (k ==.free)=true then (match cells.lookup x with|some a=>(x,a)::cs|none=>cs)else cs)
theorem DP (h:∀ x,(x,afW)∈scope.names->∃ a,env.cells.lookup x=some a):ajh scope env=pure (gQ env.cells scope.names []):=by
 have key:∀ (l:List (Str×afm)) (b:List (Str×aep)),(∀ x,(x,afW)∈l->∃ a,env.cells.lookup x=some a)->
   (forIn l b λ(p:Str×afm) (r:List (Str×aep))=>(if (p.2 ==.free)=true then do let a←cellOf env p.1;pure (ahl ((p.1,a)::r)) else pure (ahl r):Sem (ForInStep (List (Str×aep)))))=pure (gQ env.cells l b):=by
  intro l;induction l with
  |nil=>intro b _;rfl
  |cons p l d=>
   intro b h;obtain⟨x,k⟩:=p;rw [aiz];unfold gQ;by_cases q:(k ==afW)=true
   ·have hk:k=.free:=by simpa using q
    refine aL (h x (hk▸.head _)) ?_;clear hk;intro a f;simp only [q,if_true,f];have e:cellOf env x=pure a:=by unfold cellOf;rw [f]
    rw [e];simp only [pure_bind];exact d _ λy c=>h y (.tail _ c)
   ·simp only [q,if_false,pure_bind,ahm];exact d _ λy c=>h y (.tail _ c)
 unfold ajh;have e:=key scope.names [] h;simp only [bind_pure];exact e
theorem D3:∀ {cs:List (Str×aep)},(l.map (·.1)).Nodup->(x∈l.map (·.1)->cs.lookup x=none)->(∀ a,cells.lookup x=some a->(x,afW)∈l->(gQ cells l cs).lookup x=some a)/\(x∉l.map (·.1)->(gQ cells l cs).lookup x=cs.lookup x):=by
 induction l with
 |nil=>intro cs q r;exact⟨λa n h=>absurd h aha,λn=>rfl⟩
 |cons y l j=>
  obtain⟨y,k⟩:=y;intro cs b o;rw[aeL,aeU]at b;unfold gQ;by_cases e:x=y
  ·subst e;have c:x∉l.map (·.1):=b.1;refine⟨λa d g=>?_,λi=>absurd (by rw[aeL];exact .head _) i⟩
   have hk:k=.free:=by
    rcases aeq.mp g with h|h
    ·exact (aeZ h).2.symm
    ·exact absurd (aew (f:=λp:Str×afm=>p.1) h) c
   subst hk;rw[(j b.2 λh=>absurd h c).2 c]
   simp only[beq_self_eq_true,if_true,d];rw[afq,beq_self_eq_true]
  ·have same:(if (k ==afW)=true then (match cells.lookup y with|some a=>(y,a)::cs|none=>cs) else cs).lookup x=cs.lookup x:=by
    split
    ·split
     ·rw[afq,beq_eq_false_iff_ne.mpr e]
     ·rfl
    ·rfl
   have m:=j (cs:=if (k ==afW)=true then (match cells.lookup y with|some a=>(y,a)::cs|none=>cs) else cs) b.2 λh=>by rw[same];exact o (by rw[aeL];exact .tail _ h)
   refine⟨λa d g=>m.1 a d ?_,λi=>?_⟩
   ·rcases aeq.mp g with h|h
    ·exact absurd (aeZ h).1 e
    ·exact h
   ·rw[m.2 λh=>i (by rw[aeL];exact .tail _ h),same]
section
variable{W:Wd}{c:Cx W}{A:aeX}{d:Nat}
inductive CT:Type where
 |one(n:Nat)|two(n m:Nat)
noncomputable def lP{b:Type}(z:b)(l:List O)(f:O->O->b):b:=gf z l λa r=>iR z r (f a)
theorem ml{g:Type}{z y₀:g}{f:O->O->g}(h:lP z l f=y₀) (e:y₀≠z):∃ a b,l=[a,b]/\f a b=y₀:=by
 refine be (g9 h e) ?_;clear h;intro a r c d;subst c;refine Y (jb d e) ?_;clear d e;intro b c A;subst c;exact (gJ a b rfl A)
noncomputable def CT.bind (t:CT) (a:O):Option (List (Nat×O)):=CT.casesOn (motive:=λc=>Option (List (Nat×O))) t (λn=>some [(n,a)]) λn m=>cD none a λl=>lP none l λx y=>aN none (and x.sure y.sure) (some [(m,y),(n,x)])
noncomputable def qI (a:List (Nat×Nat)) (l:List (Nat×Nat)):Option (List (Nat×Nat)):=aeC (motive:=λc=>Option (List (Nat×Nat))) (some []) (λp c d=>aD none (lk p.2 a) λi=>aD none d λr=>some ((p.1,i)::r)) l
theorem EY:∀ {a:List (Nat×Nat)},qI b l=some a->(∀ p∈l,∃ i,lk p.2 b=some i)/\∀ j i,lk j a=some i->∃ n,(j,n)∈l/\lk n b=some i:=by
 induction l with
 |nil=>intro a h;have g:=aea h;subst a;exact⟨λp m=>(nomatch m),λj i h=>nomatch h⟩
 |cons p l d=>
  intro a h;refine Y (aR h aO) ?_;clear h;intro i A h;refine Y (aR h aO) ?_;clear h;intro r W h;have g:=aea h;subst a;refine ae (d W) ?_;clear d W;intro o f;refine⟨λq s=>(aeq.mp s).elim (λe=>e▸⟨i,A⟩) (o q),λj k c=>?_⟩
  rw[eC]at c;by_cases e:j=p.1
  ·rw[if_pos e]at c;exact (ay p.2 (e▸.head _) (aea c▸A))
  ·rw[if_neg e]at c;refine Y (f j k c) ?_;clear f c;intro n t u;exact (ay n (.tail _ t) u)
structure oP (sc csc:aft)(rm:List (Nat×Nat)):Prop where
 all:∀ (n:Nat)x,sc.names[n]?=some (x,afW)->∃ n',(n,n')∈rm
 mem:∀ p∈rm,∃ x k,sc.names[p.1]?=some (x,afW)/\csc.names[p.2]?=some (x,k)
inductive oQ (sc:aft):aeD->CT->Prop
 |one{x px n}:sc.names[n]?=some (x,NameKind.local)->oQ sc (.Name x px) (.one n)
 |two{x px x' Nu k pos n m}:sc.names[n]?=some (x,NameKind.local)->sc.names[m]?=some (x',NameKind.local)->n≠m->oQ sc (.Tuple [.Name x px,.Name x' Nu] k pos) (.two n m)
noncomputable def Cx.bA (c:Cx W)(sc:aft)(a:List (Str×aep))(C:aep)(b:Str->Option aec)(M:Led):Cx W:={c with env:=ahC sc a C c.env,comp:=some (C,b),ax:=M}
theorem vm{sc:aft}{env:Env}{n:Nat}{x:Str}{k:afm}(h:sc.names[n]?=some (x,k)):∃ a,(agR sc env).names[n]?=some (x,a)/\(k=.local->a=.local):=by
 unfold agR;rw[af1,h];refine if q:_ then (ay _ (congrArg some (if_pos q)) (λe=>?_)) else (ay _ (congrArg some (if_neg q)) id)
 subst e;exact aX q
theorem DQ:(agR sc env).names.map (·.1)=sc.names.map (·.1):=by
 unfold agR;rw[List.map_map];refine List.map_congr_left λp c=>?_
 obtain⟨x,k⟩:=p;by_cases q:(k ==afW&&env.scope.kind ==ai5&&env.kindOf x ==some ahd)=true
 ·have e:=congrArg Prod.fst (if_pos q:(if (k ==afW&&env.scope.kind ==ai5&&env.kindOf x ==some ahd)=true then (x,ahd)else (x,k))=(x,ahd));exact e
 ·have e:=congrArg Prod.fst (if_neg q:(if (k ==afW&&env.scope.kind ==ai5&&env.kindOf x ==some ahd)=true then (x,ahd)else (x,k))=(x,k));exact e
theorem ak.bA (h:ak c){a:Str->Option aec}(hk:sc.kind=.function)(b:(sc.names.map (·.1)).Nodup)(f:∃ o,(C,o)∈M):ak (c.bA sc i C a M):=
 ⟨h.g,h.aZ,h.lim,h.below,hk,h.kY,h.frame,h.iE,h.qA,rfl,h.top,by show ((agR sc c.env).names.map (·.1)).Nodup;rw[DQ];exact b,h.kZ,h.lr,h.mT,(λe=>nomatch e),(λd A e=>by cases e;exact f),h.nk⟩
theorem aP.bA (h:aP c d A){a:Str->Option aec}:aP (c.bA sc b C a M) d A:=⟨h.frames,h.depth,h.units,h.handled⟩
theorem SR.bA{M:Led}(R:SR (c.with M) σ s α N){a b:Str->Option aec}{aK:List (Nat×Nat)}{lo:Nat}(f:lo<=σ.n) (F:Fr c.h₀ c.L s.heap a) (g:(C,e)∈M) (h:ahe e b) (i:ek W (agR sc c.env) loc α N b) (j:gj (agR sc c.env) α aK k):SR (c.bA sc k C a M) ⟨loc,aK,σ.st,σ.n,lo,σ.mark⟩ s α N:=
 ⟨(QA a F rfl e b g h i),j,R.news,R.nodup,R.inj,R.obj,R.all,R.hi,R.wf,R.bD,R.len,f,R.bt,R.gens,R.os,R.aZ⟩
theorem SR.xo{a:Str->Option aec}(R:SR (c.bA sc o C a M) b s α N) (f:c.comp=none) (j:NR c σ.loc h k a) (g:Ge h k α N) (l:gj c.scope h σ.aK c.env.cells) (n:∀ i∈σ.mark,i<b.n): SR (c.with M) (back σ b) s α N/\Fr c.h₀ c.L s.heap a:=by
 refine cJ R.fr λm F e W=>?_
 subst e;refine⟨⟨(ay m F ?_),l.mono g,R.news,R.nodup,R.inj,R.obj,R.all,R.hi,R.wf,R.bD,R.len,R.low,n,R.gens,R.os,R.aZ⟩,F⟩;have d:=j.mono g;unfold NR at d ⊢;rw[f]at d;have A:(c.with M).comp=none:=f;rw[A];exact d
theorem Fr.turned{m:Str->Option aec}(F:Fr a L h m){S:List aep}(f:∀ b∈S,b≠L/\a.get? b=none) (hk:∀ b o,b∉S->h.get? b=some o->h'.get? b=some o):Fr a L h' m:=
 ⟨F.ns.at' λo e=>hk _ o (λz=>(f _ z).1 rfl) e,λb o e=>hk b o (λz=>by rw[(f _ z).2]at e;exact aT e) (F.keep b o e),F.above⟩
theorem As(h:lk j [(i,a)]=some v):j=i/\v=a:=by
 rw [eC]at h;by_cases q:j=i
 ·rw [if_pos q]at h;exact⟨q,(aea h).symm⟩
 ·rw [if_neg q]at h;exact aT h
theorem sR (h:lk k [(i,a),(j,b)]=some v):(k=i/\v=a)\/(k=j/\v=b):=by
 rw [eC]at h;by_cases q:k=i
 ·rw [if_pos q]at h;exact .inl ⟨q,(aea h).symm⟩
 ·rw [if_neg q]at h;exact .inr (As h)
theorem Q4 (I:A.handled=none) {sc:aft}{env:Env}{g:List (Str×aep)}{C:aep}(L:oQ sc target t) (hk:sc.kind=.function) (w:(sc.names.map (·.1)).Nodup) (f:t.bind a=some loc)
  {M:Cx W}{σ:LS}{s:aeg}{α N}(R:SR M σ s α N) {v:aec}(l:VR W.kt α N v a) {P:Str->Option aec}(y:s.heap.Ns C P) {Q:Unit->aeg->Prop}{E:aec->aeg->Prop}
  (k:∀ h' tk z,h'.Ns C z->ek W (agR sc env) loc α N z->(∀ b o,b≠C->s.heap.get? b=some o->h'.get? b=some o)->Q () {s with heap:=h',toks:=tk}):
  WP W A (aie target (ahC sc g C env) v) Q E s:=by
 have m:((agR sc env).names.map (·.1)).Nodup:=by rw[DQ];exact w
 have p:((ahC sc g C env).scope.kind ==ScopeKind.class ||(ahC sc g C env).scope.kind ==ScopeKind.module&&(ahC sc g C env).locals !=(ahC sc g C env).globals)=false:=by rw[show (ahC sc g C env).scope.kind=.function from hk];rfl
 induction L using oQ.casesOn with
 |@one x S n i=>
  refine Y (vm (env:=env) i) λk' h q=>?_
  obtain rfl:=q rfl
  have c:=aea f;subst loc
  refine aje (ahr (eW m h) y (λh' T V=>?_) p)
  refine k h' _ _ T (λj b u=>?_) λb o d e=>(V.2 b d).trans e
  refine ae (As u) ?_;intro c X;subst c;subst X
  exact ⟨x,_,v,h,if_pos rfl,l⟩
 |@two x S B Nu kk pos n qa i D d=>
  refine Y (vm (env:=env) i) λk1 h q=>?_
  obtain rfl:=q rfl
  refine Y (vm (env:=env) D) λk1' F Z=>?_
  obtain rfl:=Z rfl
  have xne:x≠B:=λe=>d (zE w i (e▸D))
  refine Y (dO f aO) ?_;clear f;intro qb c f;subst c
  refine be (ml f aO) ?_;clear f;intro b1 b2 c f;subst c
  refine ae (aS f aO) ?_;clear f;intro G f
  have c:=aea f;subst loc
  refine aH (eX R l) ?_;clear R l;intro qc vs c it r;subst c
  refine ae (ad9.mp G) ?_;clear G;intro s1 s2
  refine aH (jV r (ad9.mpr ⟨s1,ad9.mpr ⟨s2,rfl⟩⟩)) ?_;clear r s1 s2;intro v1 v2 c CJ CK;subst c
  refine assign_Tuple_tuple I it rfl rfl λh₁ Ya=>?_
  have H:∀ b o,s.heap.get? b=some o->h₁.get? b=some o:=zg Ya
  refine aeb (afO (aje (ahr (eW m h) (y.keeps H) (λlx Yb AR=>?_) p)))
  refine aeb (afO (aje (ahr (eW m F) Yb (λtS Yc Yd=>?_) p)))
  refine aeo (k tS _ _ Yc (λj b u=>?_) λb o d e=>(Yd.2 b d).trans ((AR.2 b d).trans (H b o e)))
  rcases sR u with ⟨rfl,rfl⟩|⟨rfl,rfl⟩
  ·exact (dx B _ v2 F (if_pos rfl) CK)
  ·exact (dx x _ v1 h ((if_neg xne).trans (if_pos rfl)) CJ)
noncomputable def su (c:Cx W) (A:aeX) (b:List aeD) (t:Tc):Prop:=∀ d k y,t d k=y->y≠.no->∀ s a N E,SR c d s a N->bS c y d a N E->∀ Q,ry c y d a N k Q->
 WP W A (forIn b true λe r=>if r=true then do let f←isTrue e c.env (eval e c.env);pure (ahl f) else pure (ahl r)) Q E s
theorem Q5:su c A [] bo:=λW k y h a s b N E R e Q d=>wpAny_tests_nil (d _ _ _ _ _ h R .refl)
theorem Q6 (h:dz c A e t):su c A [e] t:=λd k y q W s a N E R b Q f=>wpAny_tests_one (h d k y q W s a N E R b Q f)
noncomputable def gM (t:CT) (nt:Bool) (b:List (Nat×Nat)) (h:Tc) (g:Ev) (l:List O):List O->LS->(List O->LS->Rs)->Rs:=aeC (motive:=λe=>List O->LS->(List O->LS->Rs)->Rs)
 (λd c fin=>fin d c)
 (λa e f d c fin=>et a (λq a=>aN .no nt (aD .no (t.bind a) λW=>Rs.casesOn (motive:=λe=>Rs) (g ⟨W,b,c.st,c.n,c.n,c.mark⟩ (fW c.n)) (λv=>f (d++[.may q v]) c fin) (λe=>.no) .no)) (aD .no (t.bind a) λW=>h ⟨W,b,c.st,c.n,c.lo,c.mark⟩ λq A=>aen (f d (back c A) fin) (g ⟨W,b,A.st,A.n,A.lo,A.mark⟩ λv i=>f (d++[v]) (back c i) fin) q)) l
theorem zq (h:gM t nt b g e (.may q a::l) i σ fin=y) (f:y≠.no): ∃ loc v,nt=true/\t.bind a=some loc/\e ⟨loc,b,σ.st,σ.n,σ.n,σ.mark⟩ (fW σ.n)=.ok v/\gM t nt b g e l (i++[.may q v]) σ fin=y:=by
 refine ae (aS h f) ?_;clear h;intro d h;refine Y (aR h f) ?_;clear h;intro loc A h
 cases c:e ⟨loc,b,σ.st,σ.n,σ.n,σ.mark⟩ (fW σ.n) with
 |ok v=>rw[c]at h;exact ⟨loc,v,d,A,c,h⟩
 |_=>rw[c]at h;exact bO h f
theorem Qh (j:a.sure=true) (h:gM t nt e f g (a::l) i σ fin=y) (k:y≠.no): ∃ loc,t.bind a=some loc/\(f ⟨loc,e,σ.st,σ.n,σ.lo,σ.mark⟩ λq b=>aen (gM t nt e f g l i (back σ b) fin) (g ⟨loc,e,b.st,b.n,b.lo,b.mark⟩ λv m=>gM t nt e f g l (i++[v]) (back σ m) fin) q)=y:=by
 rcases fD a with ⟨c,v,rfl⟩|d
 ·exact aX j
 ·exact aR ((d _ _).symm.trans h) k
theorem ah.wu (h:ah T α N vs (b::l)):(b.sure=true/\∃ v e,vs=v::e/\VR T α N v b/\ah T α N e l)\/∃ c a,b=.may c a/\((T.cond c=true/\∃ v e,vs=v::e/\VR T α N v a/\ah T α N e l)\/(T.cond c=false/\ah T α N vs l)):=by
 rcases fD b with ⟨c,a,rfl⟩|A
 ·exact .inr (gJ c a rfl h.pZ)
 ·have d:b.sure=true:=(show b.sure=et b (λW W=>false) true by induction b using O.casesOn<;>rfl).trans (A _ _)
  exact .inl ⟨d,h.cj d⟩
theorem Qi (k:y≠.no):∀ {f:List O}{σ:LS},ah T α N (v::vs) l->ah T p s u f->gM t nt m n o l f σ fin=y->
  ∃ g i,ah T p s u i/\ah T α N vs g/\((∃ a,VR T α N v a/\gM t nt m n o (a::g) i σ fin=y)\/∃ q a,T.cond q=true/\VR T α N v a/\gM t nt m n o (.may q a::g) i σ fin=y):=by
 induction l with
 |nil=>exact λh c c=>nomatch h.nil_inv
 |cons b l x=>
  intro f σ h d e;rcases h.wu with⟨_,w,z,A,W,r⟩|⟨q,a,rfl,⟨j,w,z,A,W,r⟩|⟨j,r⟩⟩
  ·cases A;exact (bB l f d r (.inl (ay b W e)))
  ·cases A;exact (bB l f d r (.inr (bB _ _ j W e)))
  ·refine eI (zq e k) ?_;clear e k;intro D B c c c C;refine x r ?_ C;have:=d.app (.no j (av:=B) .nil);rwa[agu]at this
theorem Q7 (g:y≠.no):∀ {f:List O}{σ:LS},ah T α N [] l->ah T j k m f->gM t nt u v x l f σ fin=y->∃ i,ah T j k m i/\fin i σ=y:=by
 induction l with
 |nil=>exact λc d e=>⟨_,d,e⟩
 |cons b l A=>
  intro f σ h d e;rcases h.wu with⟨_,w,W,n,_,_⟩|⟨q,a,rfl,⟨_,w,W,n,_,_⟩|⟨o,r⟩⟩
  ·contradiction
  ·contradiction
  ·refine eI (zq e g) ?_;clear e g;intro z p c c c s;refine A r ?_ s;have:=d.app (.no o (av:=p) .nil);rwa [agu] at this
theorem PL:({cls:=.type "list",data:=.seq (a.toArray.push v) (n+1)}:Obj)=aex (a++[v]).toArray (n+1):=by
 rw[show a.toArray.push v=(a++[v]).toArray by simp]
theorem SR.AS {M M':Led} {σ:LS} (f:ak c) (g:c.comp=none) (R:SR (c.with M) σ s α N) (h:M'.Sublist M) {wr:List aep} {h₁:afd} {tk₁:Nat} (hk:∀ b o,b∉wr->s.heap.get? b=some o->h₁.get? b=some o)
  (fq:∀ b∈wr,(∃ o,(b,o)∈M)/\b∉(N++M').map (·.1)):SR (c.with M') σ {s with heap:=h₁,toks:=tk₁} α N:=by
 refine Y R.fr λm F A=>?_
 have W:∀ b∈wr,b≠c.L/\c.h₀.get? b=none:=λb a=>by
  refine ae (fq b a) ?_;clear a;intro i j;obtain⟨o,k⟩:=i;exact (R.news (b,o) (aek _ k)).2
 have e:Fr c.h₀ c.L h₁ m:=⟨F.ns.at' λo q=>hk _ o (λz=>(W _ z).1 rfl) q,λb o q=>hk b o (λz=>by rw[(W _ z).2]at q;exact aT q) (F.keep b o q),F.above⟩
 have sub:(N++M').Sublist (N++M):=List.Sublist.append (List.Sublist.refl N) h;refine⟨(ay m e ?_),R.aK,λp d=>?_,R.nodup.sublist (sub.map _),R.inj,R.obj,R.all,λp d=>R.hi p (sub.subset d),R.wf,R.bD,R.len,R.low,R.bt,R.gens,R.os,f.aZ.keeps e.keep⟩
 ·unfold NR at A ⊢;have l:∀ M,(c.with M).comp=none:=λj=>g
  rw[l]at A ⊢;exact A
 ·have q:=R.news p (sub.subset d);exact⟨hk _ _ (λz=>(fq _ z).2 (aew d)) q.1,q.2⟩
inductive AU (c:Cx W) (σ:LS) (α:List aep) (N:Led) (D C:aep) (mf:Str->Option aec) (ws:List aep) (St:Nat->afd->Prop) (vs:List aec) (fn:List O->List O->LS->Rs) (y:Rs):Nat->aeg->Prop
 |mk (i:Nat) (own':Led) (Nv:Obj) (m':Str->Option aec) (ys:List aec) (n:Nat) (bu:LS) (bG:List aep) (N':Led) (l' acc:List O){s':aeg}(he:own'.map (·.1)=ws) (R:SR (c.with (((D,aex ys.toArray n)::(C,Nv)::own')++c.ax)) bu s' bG N') (yv:ahe Nv m') (F:Fr c.h₀ c.L s'.heap mf) (g:bh σ α N bu bG N') (el:St i s'.heap) (hi:i<=vs.length) (yw:ys.length<=i) (ie:ah W.kt α N (vs.drop i) l') (rE:ah W.kt bG N' ys acc) (h:fn l' acc bu=y) (uC:bu.aK=σ.aK):AU c σ α N D C mf ws St vs fn y (vs.length+1-i) s'
theorem zI (h:i<n):n+1-(i+1)<n+1-i:=Nat.sub_lt_sub_left (ae7 h) (agp i)
theorem Q8 (hc:ak c) (hn:c.comp=none) (hA:aP c d A) {elt target iter:aeD}{ifs:List aeD}{P Md:Nat->aec->afd->Prop}{St:Nat->afd->Prop}{T:Str->Option aec}
  (KT:KTurns W.prog W.w A target qf fp wr vs.length P Md St) (Ho:∀ i v h,P i v h->∃ u,vs[i]?=some u/\∀ α N a,VR W.kt α N u a->VR W.kt α N v a) (hT:oQ sc target t) (Nw:sc.kind=.function) (iU:(sc.names.map (·.1)).Nodup) (hnt:nt=true->ifs=[])
  (hct:∀ M,(∀ p∈c.ax,p∈M)->(∃ o,(C,o)∈M)->su (c.bA sc cl C T M) A ifs ct) (yx:∀ M,(∀ p∈c.ax,p∈M)->(∃ o,(C,o)∈M)->aE (c.bA sc cl C T M) A elt ce)
  {α N}{oC:Obj}{BB:Str->Option aec}(R:SR (c.with (((D,aex #[] 0)::(C,oC)::own)++c.ax)) σ s α N) (yv:ahe oC BB) (qg:Fr c.h₀ c.L s.heap T) (hm:NR c σ.loc α N T) (kq:gj (agR sc c.env) α aK cl)
  (el:St 0 s.heap) (fq:∀ b∈wr,b∈own.map (·.1)) (mz:∀ i h,St i h->∀ b∈own.map (·.1),∃ o,h.get? b=some o) (ik:∀ b∈fp,b∈own.map (·.1)\/∃ o,dE c σ α N b o) (hfC:C∉fp) (hfD:D∉fp)
  (ie:ah W.kt α N vs l) (ec:vs.length<=1000) {fin:List O->LS->Rs}{y:Rs}(h:gM t nt aK ct ce l [] σ fin=y) (hy:y≠.no) (hx:∀ C,y≠.exc C) {RR:aif->aeg->Prop}
  (BC:∀ X m' k n f s' B E acc,SR (c.with ((D,aex k.toArray n)::(C,X)::c.ax)) f s' B E->ahe X m'->Fr c.h₀ c.L s'.heap T->bh σ α N f B E->ah W.kt B E k acc->fin acc f=y->RR (.ok .next) s'):
  agb (aeI W.prog W.w) A (.compLoop (.ListComp elt [⟨target,iter,ifs,0⟩] sc pos) 0 (.ref qf) (.ref D) (ahC sc cl C c.env)) RR s:=by
 have Nx:∀ {cx:Cx W}{σ α N qa},bS cx y σ α N qa:=λ{cx σ α N qa}C qb f s' B E q=>absurd q (hx C)
 refine Po (AU c σ α N D C T (own.map (·.1)) St vs (λl acc σ=>gM t nt aK ct ce l acc σ fin) y) ?_ (vs.length+1)
  (.mk 0 own oC BB [] 0 σ α N l [] rfl R yv qg .refl el (afa _) (afa _) (by rw [aiR];exact ie) .nil h rfl)
 intro qd s' hI
 obtain ⟨i,own',X,m',k,n,f,B,E,l',acc,he,I,LC,F',g,mV,hi,yw,tT,rE,h,uC⟩:=hI
 have ks:∀ M:Led,∀ p∈c.ax,p∈M++c.ax:=λM p j=>aek _ j
 have abt:∀ b∈(((D,aex k.toArray n)::(C,X)::own').map (·.1)),b≠c.L/\c.h₀.get? b=none:=λb e=>by
  refine Y (aeG.mp e) ?_;intro p j bj;subst bj
  exact (I.news p (aek _ (aef _ j))).2
 have nd:=pU.nodup_iff.mp I.nodup
 rw [aeO] at nd
 have yy:=(aeY.mp nd).1
 rw [aeL,aeL,aeU,aeU] at yy
 have uH:D≠C:=λqb=>yy.1 (by rw [show (D,aex k.toArray n).1=C from qb];exact .head _)
 have CL:D∉own.map (·.1):=λq=>yy.1 (by rw [←he] at q;exact .tail _ q)
 have CM:C∉own.map (·.1):=λq=>yy.2.1 (by rw [←he] at q;exact q)
 have zC:=I.news (C,X) (aek _ (aef _ (.tail _ (.head _))))
 have zD:=I.news (D,aex k.toArray n) (aek _ (aef _ (.head _)))
 by_cases bN:i<vs.length
 ·refine KT.item i _ _ _ bN mV λv h₁ tk₁ uF mD=>?_
  refine KT.go i v _ _ _ uF λlx hP mj te=>?_
  have qq:∀ b o,b∉own.map (·.1)->s'.heap.get? b=some o->lx.get? b=some o:=λb o e q=>te b o (λz=>e (fq b z)) (mD b o (λz=>e (fq b z)) q)
  refine Y (Ho i v _ hP) ?_;clear Ho hP;intro u hu Ny
  rw [ahO bN,show vs[i]=u from aea ((aeN bN).symm.trans hu)] at tT
  refine aH (Qi hy tT rE h) λuI BD tU wx Ye=>?_
  have Wj:lx.Ns C m':=LC.ns (qq _ _ CM zC.1)
  have ex:∀ ws:List aep,(∀ b∈ws,∃ o,lx.get? b=some o)->∃ w:Led,w.map (·.1)=ws/\∀ p∈w,lx.get? p.1=some p.2:=λws=>by
   induction ws with
   |nil=>exact λu_=>⟨[],rfl,λp j=>(nomatch j)⟩
   |cons b ws ih=>
    intro q
    refine Y (ih λb e=>q b (.tail _ e)) ?_;clear ih;intro w e1 e2
    refine aL (q b (.head _)) λo ho=>?_
    refine (ay ((b,o)::w) (by rw [aeL,e1]) (λp j=>?_))
    rcases aeq.mp j with rfl|j
    ·exact ho
    ·exact e2 p j
  refine Y (ex (own.map (·.1)) (mz _ _ mj)) ?_;clear ex mz;intro w e1 e2
  have Yf:∀ (oD LD:Obj),((D,oD)::(C,LD)::w).map (·.1)=((D,aex k.toArray n)::(C,X)::own').map (·.1):=λoD LD=>by simp only [aeL];rw [e1,he]
  have cA:=I.jh hc (own':=(D,aex k.toArray n)::(C,X)::w) (t:=tk₁) (Yf _ _) (λb o e q=>qq b o (λz=>e (by rw [←he] at z;exact .tail _ (.tail _ z))) q) (λp j=>by
   rcases aeq.mp j with rfl|j
   ·exact qq _ _ CL zD.1
   ·rcases aeq.mp j with rfl|j
    ·exact qq _ _ CM zC.1
    ·exact e2 p j)
  have turn:∀ {a:O}{loc:List (Nat×O)},VR W.kt α N v a->t.bind a=some loc->∀ {qc:Unit->aeg->Prop}{qa:aec->aeg->Prop},
    (∀ m Z dU,ahe m Z->ek W (agR sc c.env) loc B E Z->SR (c.with (((D,aex k.toArray n)::(C,m)::w)++c.ax)) f dU B E->Fr c.h₀ c.L dU.heap T->St (i+1) dU.heap->qc () dU)->
    WP W A (aie target (ahC sc cl C c.env) v) qc qa {s' with heap:=lx,toks:=tk₁}:=by
   intro a loc gZ e qc qa qd
   refine Q4 hA.handled hT Nw iU e cA (gZ.mono g.ge) Wj λtS tl Z Gy kc md=>?_
   refine Y (LCg.ns_obj Gy) ?_;clear Gy;intro m heC jd
   have V:=cA.jh hc (own':=(D,aex k.toArray n)::(C,m)::w) (h':=tS) (t:=tl) (by simp only [aeL]) (λb o e q=>md b o (λz=>e (by rw [z];exact .tail _ (.head _))) q) (λp j=>by
    rcases aeq.mp j with rfl|j
    ·exact md _ _ uH (qq _ _ CL zD.1)
    ·rcases aeq.mp j with rfl|j
     ·exact heC
     ·exact md _ _ (λz=>CM (by rw [←e1,←z];exact aew j)) (e2 p j))
   refine qd m Z _ jd kc V (Eng.Fr.turned F' (S:=((D,aex k.toArray n)::(C,X)::own').map (·.1)) abt λb o e q=>?_) (KT.frame _ _ _ mj λb e o q=>md b o (λz=>hfC (z▸e)) q)
   exact md b o (λz=>e (by rw [z];exact .tail _ (.head _))) (qq b o (λz=>e (by rw [←he] at z;exact .tail _ (.tail _ z))) q)
  have behind:∀ {m:Obj}{Z:Str->Option aec}{r:LS}{L:aeg}{G H}{val:aec}{vU:List O}{qa:aec->aeg->Prop},ahe m Z->SR (c.with (((D,aex k.toArray n)::(C,m)::w)++c.ax)) r L G H->Fr c.h₀ c.L L.heap T->St (i+1) L.heap->bh σ α N r G H->r.aK=σ.aK->ah W.kt G H (k++[val]) vU->gM t nt aK ct ce uI vU r fin=y->
    WP W A (call (.builtin "list.append") [.ref D,val]) (λu_ kd=>∃ qe,qe<vs.length+1-i/\AU c σ α N D C T (own.map (·.1)) St vs (λl acc σ=>gM t nt aK ct ce l acc σ fin) y qe kd) qa L:=by
   intro m Z r L G H val vU qa jd Q tV Yg eQ Yh Wl hk
   have wC:=Q.news (C,m) (aek _ (aef _ (.tail _ (.head _))))
   have wD:=Q.news (D,aex k.toArray n) (aek _ (aef _ (.head _)))
   have wO:∀ p∈w,L.heap.get? p.1=some p.2:=λp j=>(Q.news p (aek _ (aef _ (.tail _ (.tail _ j))))).1
   refine append_at (n:=n) wD.1 (λLF tm Hp=>?_) (by
    have qb:k.toArray.size=k.length:=by simp
    rw [qb]
    exact aev (aev yw (aev hi ec)) AN)
   rw [PL] at Hp
   have oR:=Q.jh hc (own':=(D,aex (k++[val]).toArray (n+1))::(C,m)::w) (h':=LF) (t:=L.toks) (by simp only [aeL]) (λb o e q=>(tm.2 b λz=>e (by rw [z];exact .head _)).trans q) (λp j=>by
    rcases aeq.mp j with rfl|j
    ·exact Hp
    ·rcases aeq.mp j with rfl|j
     ·exact (tm.2 _ (Ne.symm uH)).trans wC.1
     ·exact (tm.2 _ λz=>CL (by rw [←e1,←z];exact aew j)).trans (wO p j))
   refine (ay _ (zI bN) (.mk (i+1) w m Z (k++[val]) (n+1) r G H uI vU e1 oR jd (Eng.Fr.turned tV (S:=[D]) (λb e=>by rw [ael.mp e];exact wD.2) λb o e q=>(tm.2 b λz=>e (by rw [z];exact .head _)).trans q) eQ (KT.frame _ _ _ Yg λb e o q=>(tm.2 b λz=>hfD (z▸e)).trans q) bN ?_ wx Wl hk Yh))
   rw [agL,List.length_singleton]
   exact af6 yw
  have wy:f.loc=σ.loc:=g.loc
  have xq:∀ {Nz:LS},f.n<=Nz.n->∀ i∈f.mark,i<Nz.n:=λq i hi=>aej (I.bt i hi) q
  have ez:NR c f.loc B E T:=by rw [wy];exact hm.mono g.ge
  have uJ:gj c.scope B f.aK c.env.cells:=I.aK
  have zJ:∀ {dU L:aeg}{m:Obj}{r:LS}{G H},SR (c.with (((D,aex k.toArray n)::(C,m)::w)++c.ax)) f dU B E->St (i+1) dU.heap->SR (c.with (((D,aex k.toArray n)::(C,m)::w)++c.ax)) r L G H->Sts σ α N r G H->St (i+1) L.heap:=by
   intro dU L m r G H V qJ Q qh
   refine KT.frame _ _ _ qJ λb e o q=>?_
   rcases ik b e with e|⟨o',e⟩
   ·rw [←e1] at e
    refine Y (aeG.mp e) ?_;intro p j bj;subst bj
    have w3:=(V.news p (aek _ (aef _ (.tail _ (.tail _ j))))).1
    rw [q] at w3
    have bj:=aea w3;clear w3;subst o
    exact (Q.news p (aek _ (aef _ (.tail _ (.tail _ j))))).1
   ·have q1:=e.at g.toSts V
    rw [q] at q1
    have bj:=aea q1;clear q1;subst o'
    exact e.at qh Q
  rcases Ye with ⟨a,gZ,hk⟩|⟨q,a,hq,gZ,hk⟩
  ·refine Y (Qh (i6 gZ) hk hy) ?_;clear hk;intro loc e hk
   refine turn (Ny _ _ _ gZ) e λm Z dU jd kc V jr qJ=>?_
   have hM:∃ o,(C,o)∈((D,aex k.toArray n)::(C,m)::w)++c.ax:=⟨m,aef _ (.tail _ (.head _))⟩
   have Rc:=V.bA (lo:=f.lo) V.low jr (aef _ (.tail _ (.head _))) jd kc (kq.mono g.ge)
   refine hct _ (ks _) hM _ _ y hk hy _ _ _ _ Rc Nx _ λq r L G H hk AW x=>?_
   have LG:Sts f B E (back f r) G H:=⟨x.ge,x.lo,x.same,x.n,rfl,x.obs,x.bf⟩
   induction q using aee with
   |false=>
    rw [if_neg (by decide)]
    refine ae (AW.xo hn ez x.ge uJ (xq x.n)) λQ tV=>?_
    exact ⟨_,zI bN,.mk (i+1) w m Z k n _ G H uI BD e1 Q jd tV ⟨g.toSts.trans LG,wy⟩ (zJ V qJ Q (g.toSts.trans LG)) bN (agX yw) wx (tU.mono x.ge) hk uC⟩
   |true=>
    rw [if_pos rfl]
    have Wm:SR (c.bA sc cl C T (((D,aex k.toArray n)::(C,m)::w)++c.ax)) ⟨loc,aK,r.st,r.n,r.lo,r.mark⟩ L G H:=by
     refine ae (AW.xo hn ez x.ge uJ (xq x.n)) ?_;clear AW;intro Q tV
     have Wn:r.mark=f.mark:=x.mark
     have:=Q.bA (lo:=r.lo) Q.low tV (aef _ (.tail _ (.head _))) jd (kc.mono x.ge) ((kq.mono g.ge).mono x.ge)
     rw [Wn]
     exact this
    refine yx _ (ks _) hM _ _ y hk hy _ _ _ _ Wm Nx _ λxr mF val kd wz mY hk wA wF xu=>?_
    have tW:Sts f B E (back f mF) wz mY:=by
     have q:Sts ⟨loc,aK,f.st,f.n,f.lo,f.mark⟩ B E ⟨loc,aK,r.st,r.n,r.lo,r.mark⟩ G H:=⟨x.ge,x.lo,x.same,x.n,x.mark,x.obs,x.bf⟩
     have q':=q.trans wF.toSts
     exact ⟨q'.ge,q'.lo,q'.same,q'.n,rfl,q'.obs,q'.bf⟩
    refine ae (wA.xo hn ez tW.ge uJ (xq tW.n)) ?_;clear xq;intro oR tX
    exact behind jd oR tX (zJ V qJ oR (g.toSts.trans tW)) ⟨g.toSts.trans tW,wy⟩ uC ((tU.mono tW.ge).app (.cons xu .nil)) hk
  ·refine eI (zq hk hy) ?_;clear hk;intro loc v' abu e gW hk
   refine turn (Ny _ _ _ gZ) e λm Z dU jd kc V jr qJ=>?_
   have hM:∃ o,(C,o)∈((D,aex k.toArray n)::(C,m)::w)++c.ax:=⟨m,aef _ (.tail _ (.head _))⟩
   rw [hnt abu]
   refine wpAny_tests_nil ?_
   rw [if_pos rfl]
   have Rc:=V.bA (lo:=f.n) (aeu _) jr (aef _ (.tail _ (.head _))) jd kc (kq.mono g.ge)
   have qK:ak (c.bA sc cl C T (((D,aex k.toArray n)::(C,m)::w)++c.ax)):=hc.bA Nw iU hM
   refine yx _ (ks _) hM _ _ (.ok v') gW (λz=>by contradiction) _ _ _ _ Rc (λC qb f s' B E q=>by contradiction) _ λxr mF val kd wz mY tn wA wF xu=>?_
   refine ae (aS (show aN .no (aeQ f.n mF.lo) (fV f.n xr mF)=.ok v' from tn) nofun) ?_;clear tn;intro eT Gz
   ·have eT:=aei eT
    refine ae (Rc.restore wA (σ:=⟨loc,aK,f.st,f.n,f.n,f.mark⟩) wF eT) ?_;clear eT;intro xv oS
    have Yi:=sg qK (σ:=⟨loc,aK,f.st,f.n,f.n,f.mark⟩) Rc wA wF xu Gz
    refine ae (xv.xo (σ:=f) hn ez oS.ge uJ I.bt) ?_;clear xv ez uJ;intro F xw
    have rg:SR (c.with (((D,aex k.toArray n)::(C,m)::w)++c.ax)) f kd B mY:=⟨F.fr,F.aK,F.news,F.nodup,F.inj,F.obj,F.all,F.hi,F.wf,F.bD,F.len,I.low,F.bt,F.gens,F.os,F.aZ⟩
    have LH:Sts f B E f B mY:=⟨oS.ge,aeu _,λu_ u_=>rfl,aeu _,rfl,λi a o hi=>oS.obs i a o (aej hi I.low),oS.bf⟩
    exact behind jd rg xw (zJ V qJ rg (g.toSts.trans LH)) ⟨g.toSts.trans LH,wy⟩ uC ((tU.mono oS.ge).app (.yes hq Yi .nil)) hk
 ·have nA:i=vs.length:=ajB hi (afk.mp bN)
  subst nA
  rw [ahA] at tT
  refine Y (Q7 hy tT rE h) ?_;clear hy tT rE h;intro BD tU hfk
  refine KT.done _ _ _ mV λh₁ tk₁ mD=>?_
  have NA:∀ b∈wr,b∈own'.map (·.1):=λb e=>by rw [he];exact fq b e
  have dn:=I.AS (M':=(D,aex k.toArray n)::(C,X)::c.ax) (wr:=wr) (h₁:=h₁) (tk₁:=tk₁) hc hn (.cons_cons _ (.cons_cons _ (aji _ _))) mD λb e=>by
   refine Y (aeG.mp (NA b e)) ?_;intro p j bj;subst bj
   refine ⟨⟨p.2,aef _ (.tail _ (.tail _ j))⟩,λz=>?_⟩
   have Yj:=I.nodup
   have Bz:(E++(((D,aex k.toArray n)::(C,X)::own')++c.ax)).map (·.1)=E.map (·.1)++(D::C::(own'.map (·.1)++c.ax.map (·.1))):=by simp
   have Hq:(E.map (·.1)++(D::C::(own'.map (·.1)++c.ax.map (·.1)))).Nodup:=by rw [←Bz];exact Yj
   refine bU (aeY.mp Hq) ?_;clear Hq;intro u_ n2 n3
   have lN:p.1∈own'.map (·.1):=aew j
   rw [aeO] at z
   rcases aeH.mp z with z|z
   ·exact n3 _ z _ (.tail _ (.tail _ (aef _ lN))) rfl
   ·rw [aeU,aeU] at n2
    rw [aeL,aeL] at z
    rcases aeq.mp z with z|z
    ·exact n2.1 (.tail _ (aef _ (by rw [←show p.1=D from z];exact lN)))
    ·rcases aeq.mp z with z|z
     ·exact n2.2.1 (aef _ (by rw [←show p.1=C from z];exact lN))
     ·exact (aeY.mp n2.2.2).2.2 _ lN _ z rfl
  exact BC X m' k n f _ B E BD dn LC (Eng.Fr.turned F' (S:=own'.map (·.1)) (λb e=>by
   refine Y (aeG.mp e) ?_;intro p j bj;subst bj
   exact (I.news p (aek _ (aef _ (.tail _ (.tail _ j))))).2) λb o e q=>mD b o (λz=>e (NA b z)) q) g tU hfk
noncomputable def gm:Rs->Rs
 |.ok v=>.ok (.tup [v])
 |.exc C=>.ok (.glob C)
 |.no=>.no
noncomputable def js (r:Rs):Rs:=Rs.casesOn (motive:=λc=>Rs) r (λv=>cD (qs .no v .exc) v λl=>gf .no l λa c=>.ok a) (λc=>.no) .no
theorem UL (h:js x=y)(a:y≠.no):∃ b,x=b/\x≠.no/\(∀ C,x≠.exc C)/\∀ z,gm z=x->z=y:=by
 refine (ay x rfl ?_);induction x using Rs.casesOn with
 |no=>exact bO h a
 |exc C=>exact bO h a
 |ok v=>
  refine (bH nofun nofun (λz c=>?_))
  induction z using Rs.casesOn with
  |no=>cases c
  |exc C=>cases c;exact h
  |ok d=>cases c;exact h
noncomputable abbrev iV:=LS->(List O->Option Nat->LS->Rs)->Rs
noncomputable def fH(o:Option Nat)(σ:LS):LS:=aeT σ σ.bf o
inductive BE (c:Cx W) (A:aeX) (target:aeD) (l:List O) (σ:LS) (s:aeg) (α:List aep) (N:Led) (I:aep):Prop
 |mk (own:Led) (fp wr:List aep) (vs:List aec) (P Md:Nat->aec->afd->Prop) (St:Nat->afd->Prop) (kt:KTurns W.prog W.w A target I fp wr vs.length P Md St) (item:∀ i v h,P i v h->∃ u,vs[i]?=some u/\∀ α N a,VR W.kt α N u a->VR W.kt α N v a) (self:∀ (s:aeg) (Q:aec->aeg->Prop) (E:aec->aeg->Prop),St 0 s.heap->Q (.ref I) s->WP W A (ait (.ref I)) Q E s) (R:SR (c.with (own++c.ax)) σ s α N) (st:St 0 s.heap) (fq:∀ b∈wr,b∈own.map (·.1)) (live:∀ i h,St i h->∀ b∈own.map (·.1),∃ o,h.get? b=some o) (ik:∀ b∈fp,b∈own.map (·.1)\/∃ o,dE c σ α N b o) (ie:ah W.kt α N vs l) (ec:vs.length<=1000)
noncomputable def tw (c:Cx W) (A:aeX) (target e:aeD) (m:iV):Prop:=∀ a k y,m a k=y->y≠.no->∀ s b N E,SR c a s b N->bS c y a b N E->∀ Q,
 (∀ l f d g h j I,k l f d=y->(∀ i,f=some i->i<d.n)->bh a b N d h j->(∀ i∈d.mark,i<d.n)->BE c A target l (fH f d) g h j I->Q (.ref I) g)->
 WP W A (eval e c.env) (λn o=>WP W A (ait n) Q E o) E s
theorem zK (r:ah T α N vs l)(h:short l=true):vs.length<=1000:=aev r.le (i4 h)
theorem vP (X:ak c) (D:aP c d A) (R:SR c σ s α N) (F:dE c σ α N b o) (g:o.cls=.type "tuple" \/o.cls=.type "list") (G:o.data=.seq vs.toArray n) (p:ah W.kt α N vs l) (H:short l=true)
  {Q:aec->aeg->Prop} {E:aec->aeg->Prop} (k:∀ I L,BE c A target l σ L α N I->Q (.ref I) L):WP W A (ait (.ref b)) Q E s:=by
 have f:=F.at (M:=c.ax) .refl R;have Z:=aeJ f;have P:b≠s.heap.objs.size:=aeE Z;have S:∀ {y:Obj},y.isFreed=false->SR (c.with ([(s.heap.objs.size,y)]++c.ax)) σ {s with heap:=s.heap.push y} α N:=λhf=>R.own X (t:=s.toks) (λb o q=>aeh _ q) (λqa hp=>by
  rw[ael.mp hp];exact ⟨aeA _ hf,aeu _⟩) (ae5 _ _)
 have T:∀ x∈[s.heap.objs.size,b],x∈[s.heap.objs.size]\/∃ o,dE c σ α N x o:=λx z=>by
  rcases aeq.mp z with rfl|z
  ·exact .inl (.head _)
  ·rw[ael.mp z];exact .inr ⟨o,F⟩
 have V:∀ (i:Nat) v (h:afd),vs.toArray[i]?=some v->∃ u,vs[i]?=some u/\∀ α N a,VR W.kt α N u a->VR W.kt α N v a:=λi v h e=>(ay v (afo.symm.trans e) (λr r r h=>h))
 rcases g with g|g
 ·have j:s.heap.IsTuple b vs.toArray:=(fC o f g n G);refine aga j ?_;have m:=Walks.tuple (prog:=W.prog) (w:=W.w) D.handled s.heap.objs.size b P vs.toArray;have KT:=agq (target:=target) m λi v s Q E st q=>letGo_tupleiter st.1 q
  rw[show vs.toArray.size=vs.length from rfl]at KT;refine k _ _ ⟨[(s.heap.objs.size,_)],_,_,vs,_,_,_,KT,V,λs Q E st q=>m.self 0 s Q E st q,S rfl,⟨(dI _ (aeA _ rfl) rfl rfl),j.at λo e=>aeh _ e⟩,λb f=>f,λi h st b f=>?_,T,p,zK p H⟩
  have B:b=s.heap.objs.size:=ael.mp f;subst B;refine Y st.1 λo C r=>?_
  exact ⟨o,C⟩
 ·have j:s.heap.IsList b vs.toArray:=(fC o f g n G);refine ajb j ?_;have m:=Walks.list (prog:=W.prog) (w:=W.w) D.handled s.heap.objs.size b P vs.toArray;have KT:=agq (target:=target) m λi v s Q E st q=>letGo_listiter st.1 q
  rw[show vs.toArray.size=vs.length from rfl]at KT;refine k _ _ ⟨[(s.heap.objs.size,_)],_,_,vs,_,_,_,KT,V,λs Q E st q=>m.self 0 s Q E st q,S rfl,⟨(dI _ (aeA _ rfl) rfl rfl),j.at λo e=>aeh _ e⟩,λb f=>f,λi h st b f=>?_,T,p,zK p H⟩
  have B:b=s.heap.objs.size:=ael.mp f;subst B;refine Y st.1 ?_;clear st;intro o C r;exact ⟨o,C⟩
noncomputable def cu (a:Ev):iV:=λc k=>a c λv c=>cD (lp (dZ .no c.st v λi o=>gF .no o λl=>aN .no (short l) (k l (some i) c)) v λl=>aN .no (short l) (k l none c)) v λl=>aN .no (short l) (k l none c)
theorem UM (g:ak c) (m:aP c d A) (B:aE c A e C):tw c A target e (cu C):=by
 intro D k y h b s F N E R G Q o;refine B D _ y h b s F N E R G _ λv T val V X Z h W p q=>?_
 rcases l8 h with h|⟨l,rfl,h⟩
 ·rcases vI h with h|⟨l,rfl,h⟩
  ·refine pL W q h b λi a l t n u H r h=>?_
   refine ae (aS h b) ?_;clear h;intro f h;exact vP g m (W.bf (W.lt u)) (.inr ⟨H,.inr (ay i (.head _) u)⟩) (.inr rfl) rfl r f λI w K=>o _ (some i) _ _ _ _ _ h (λj e=>aea e▸W.lt u) p W.bt K
  ·refine ae (aS h b) ?_;clear h;intro f h;refine gC q.inv ?_;intro a t n L x z r;subst L;exact vP g m W (.inr ⟨x,.inl z⟩) (.inr rfl) rfl r f λI w K=>o _ none _ _ _ _ _ h (λi e=>nomatch e) p W.bt K
 ·refine ae (aS h b) ?_;clear h b;intro f h;rcases q.inv with ⟨a,qa,t,n,e,x,z,M,P,r⟩|⟨a,t,n,sl,e,S,r⟩
  ·subst e;exact vP g m W (.inr ⟨x,.inl z⟩) (.inl M.1) P r f λI w K=>o _ none _ _ _ _ _ h (λi e=>nomatch e) p W.bt K
  ·subst e;exact vP g m W (.inl (g.aZ _ _ S)) (.inl rfl) rfl r f λI w K=>o _ none _ _ _ _ _ h (λi e=>nomatch e) p W.bt K
noncomputable def Au (t:CT) (nt:Bool) (a:List (Nat×Nat)) (b:iV) (e:Tc) (f:Ev) (σ:LS) (K:List O->LS->Rs):Rs:=aD .no (qI σ.aK a) λh=>b σ λl d c=>aD .no (qI c.aK a) λA=>js (gM t nt A e f l [] (fH d c) λW g=>gm (K W (g.fL c)))
structure vV (c:Cx W) (A:aeX) (target iter elt:aeD) (ifs:List aeD) (sc:aft) (t:CT) (nt:Bool) (rm:List (Nat×Nat)) (it:iV) (ct:Tc) (ce:Ev):Prop where
 tgt:oQ sc target t
 kind:sc.kind=.function
 cV:(sc.names.map (·.1)).Nodup
 ntt:nt=true->ifs=[]
 cell:∀ x∈sc.names,x.2≠.cell
 rm:oP sc c.scope rm
 set:hJ iter=true
 it:tw c A target iter it
 ct:∀ C mf M,(∀ p∈c.ax,p∈M)->(∃ o,(C,o)∈M)->su (c.bA sc (gQ c.env.cells sc.names []) C mf M) A ifs ct
 ce:∀ C mf M,(∀ p∈c.ax,p∈M)->(∃ o,(C,o)∈M)->aE (c.bA sc (gQ c.env.cells sc.names []) C mf M) A elt ce
theorem SG (g:Sts (fH oi σ) α N a b e):Sts σ α N (a.fL σ) b e:=by
 induction oi using aer with
 |none=>exact⟨g.ge,g.lo,g.same,g.n,rfl,g.obs,g.bf⟩
 |some i=>exact g.fL
theorem GA:(fH oi σ).n=σ.n:=by induction oi using aer<;>rfl
theorem SH:(fH oi σ).loc=σ.loc:=by induction oi using aer<;>rfl
theorem SI:(fH oi σ).aK=σ.aK:=by induction oi using aer<;>rfl
theorem zd (m:oP sc c.scope t) (R:SR (c.with M) σ s α N) (h:qI σ.aK t=some u) (v:(sc.names.map (·.1)).Nodup):
  (∀ x,(x,afW)∈sc.names->∃ a,c.env.cells.lookup x=some a)/\gj (agR sc c.env) α u (gQ c.env.cells sc.names []):=by
 refine ae (EY h) λw y=>?_
 refine⟨λx z=>?_,λj i B=>?_⟩
 ·refine aL (aht.mp z) λn o=>?_
  refine aL (m.all n x o) λC W=>?_
  refine be (m.mem _ W) λb k e f=>?_
  refine ae (aeZ (aea (o.symm.trans e))) ?_;clear o;intro d g;subst d;refine aL (w _ W) λi p=>?_
  refine cg (R.aK _ _ p) λb A a l q r=>?_
  refine ae (aeZ (aea (f.symm.trans (show c.scope.names[C]?=some (b,A) from l)))) ?_;intro d g;subst d;exact⟨a,q⟩
 ·refine Y (y j i B) λn W p=>?_
  refine be (m.mem _ W) λx k e f=>?_
  refine cg (R.aK _ _ p) λb A a l q r=>?_
  refine ae (aeZ (aea (f.symm.trans (show c.scope.names[n]?=some (b,A) from l)))) ?_;clear f l;intro d g;subst d;refine Y (vm (env:=c.env) e) λA D g=>?_
  exact (dx x A a D ((D3 v λg=>rfl).1 a q (aeM e)) r)
theorem Ew (hc:ak c) (l:c.comp=none) (hA:aP c d A) (H:vV c A target z S T sc t nt rm it ct ce)
  {K:List O->LS->Rs} (h:Au t nt rm it ct ce σ K=y) (j:y≠.no) (R:SR c σ s α N) (hE:bS c y σ α N E) {use:Option (aec->Sem Unit)} {Q:aec->aeg->Prop}
  (BC:∀ D C B V F n k G m p i,SR (c.with ((D,aex F.toArray n)::(C,B)::c.ax)) k G m p->ahe B V->bh σ α N k m p->ah W.kt m p F i->K i k=y->compPost (aeI W.prog W.w) A E use Q (.ref D) C (.ok .next) G):
  WP W A (comprehension (.ListComp S [⟨target,z,T,0⟩] sc pos) sc c.env pos' (newList []) false (eval z c.env) use) Q E s:=by
 refine Y (aR h j) ?_;clear h;intro adS UN h
 have Yk:=zd (c:=c) (M:=c.ax) H.rm R UN H.cV
 refine wpAny_comprehension_free rfl (pS H.set c.env) (DP Yk.1) H.kind (λqb hx hl=>?_) ?_
 ·refine aL (aht.mp hx) ?_;clear hx;intro n l
  obtain ⟨qb,qf⟩:=qb
  dsimp only at hl
  subst hl
  exact eW H.cV l
 refine afE (H.it σ _ y h j s α N E R hE (λit' a=>WP W A (newList []) (λi r=>WP W A (newFunctionEnv sc c.env.globals (gQ c.env.cells sc.names []) [] c.env.qual none .none (some c.env)) (λLI rd=>
   agb (aeI W.prog W.w) A (.compStart (.ListComp S [⟨target,z,T,0⟩] sc pos) 0 it' i {LI with scope:=agR sc c.env}) (compPost (aeI W.prog W.w) A E use Q i LI.locals) rd) E r) E a) λqg oi X a cK bZ qc h yz hY rF abv=>?_) (λu u q=>q) λu u q=>q
 refine Y (aR h j) ?_;clear h;intro aK BF h
 refine j0 (UL h j) ?_;clear h;intro y' adU Yl Ym Yn
 obtain ⟨Z,fp,wr,vs,qh,Md,St,KT,hP,Yo,dn,el,fq,mz,ik,ie,ec⟩:=abv
 refine afH (wpAny_newFunctionEnv H.cell (λy j=>nomatch j) (λv I L=>?_) H.kind)
 dsimp only at I L ⊢
 generalize CN:a.heap.push {cls:=.type "list",dict:=none,data:=.seq ([]:List aec).toArray}=f at I L ⊢
 have g:f.objs.size=a.heap.objs.size+1:=by rw [←CN,af0]
 have uH:a.heap.objs.size≠f.objs.size:=by rw [g];exact aeE (agp _)
 have below:∀ b,b<a.heap.objs.size->b≠f.objs.size/\b≠a.heap.objs.size:=λb P=>⟨by rw [g];exact aeE (ae7 P),aeE P⟩
 have old:∀ b o,a.heap.get? b=some o->v.get? b=some o:=λb o e=>L.extBut b o (below b (aeJ e)).1 (aeh _ (CN▸aeh _ e))
 have hD:v.get? a.heap.objs.size=some (aex #[] 0):=L.extBut _ _ uH (aeh _ (CN▸aeA _ rfl))
 refine Y (LCg.ns_obj I) ?_;clear I;intro oC yv hnC
 have lt:∀ b∈fp,b<a.heap.objs.size:=λb P=>by
  rcases ik b P with q|⟨o,q⟩
  ·refine aL (mz _ _ el b q) λo ho=>?_
   exact aeJ ho
  ·exact aeJ (q.at .refl dn)
 have GB:St 0 v:=KT.frame _ _ _ el λb u o e=>old b o e
 have wG:ak (c.with (Z++c.ax)):=hc.with λqd w=>aek _ w
 have bW:SR (c.with (((a.heap.objs.size,aex #[] 0)::(f.objs.size,oC)::Z)++c.ax)) (fH oi X) {a with heap:=v,toks:=a.toks} cK bZ:=SR.own (c:=c.with (Z++c.ax)) dn wG (own:=[(a.heap.objs.size,aex #[] 0),(f.objs.size,oC)]) (t:=a.toks) old (λqd w=>by
  rcases aeq.mp w with rfl|w
  ·exact ⟨hD,aeu _⟩
  ·rw [ael.mp w]
   exact ⟨yv,by show a.heap.objs.size<=f.objs.size;rw [g];exact afY _⟩) (aeU.mpr ⟨λq=>uH (ael.mp q),ae5 _ _⟩)
 have Yp:=(zd (c:=c) H.rm dn (by rw [SI];exact BF) H.cV).2
 refine Y bW.fr λmf jr AX=>?_
 have hm:NR c (fH oi X).loc cK bZ mf:=by
  have hn':∀ x,(c.with x).comp=none:=λu=>l
  unfold NR at AX ⊢
  rw [hn'] at AX
  rw [l]
  exact AX
 have loop:∀ r:aeg,r={a with heap:=v,toks:=a.toks+([]:List (Str×aec)).length}->
   agb (aeI W.prog W.w) A (.compLoop (.ListComp S [⟨target,z,T,0⟩] sc pos) 0 (.ref qc) (.ref a.heap.objs.size) (ahC sc (gQ c.env.cells sc.names []) f.objs.size c.env))
    (compPost (aeI W.prog W.w) A E use Q (.ref a.heap.objs.size) f.objs.size) r:=by
  rintro r rfl
  refine Q8 hc l hA KT hP H.tgt H.kind H.cV H.ntt (λx hM g=>H.ct _ _ x hM g) (λx hM g=>H.ce _ _ x hM g) bW hnC jr hm Yp GB fq mz ik (λqa=>by have q:=lt _ qa;rw [g] at q;exact afx _ (Nat.lt_of_succ_lt q)) (λqa=>afx _ (lt _ qa)) ie ec rfl Yl Ym ?_
  intro B V F n k G m p i R' abw F' g' rE hk
  have g'':=SG g'.toSts
  refine BC _ _ B V F n (k.fL X) G m p i (R'.marked λqe hi=>aej (rF qe hi) (by have:=g'.n;rw [GA] at this;exact this)) abw ⟨hY.toSts.trans g'',?_⟩ rE (Yn _ hk)
  show k.loc=σ.loc
  rw [g'.loc,SH,hY.loc]
 exact codeAny_compStart_list (loop _ rfl) (Yo _ _ _ GB (loop _ rfl))
theorem SR.LJ (a:ak c) (e:c.comp=none) (R:SR (c.with ((C,f)::c.ax)) σ s α N) (g:aiv C s.heap h'):SR c σ {s with heap:=h'} α N:=
 SR.AS (M':=c.ax) (wr:=[C]) (tk₁:=s.toks) a e R (List.sublist_cons_self _ _) (λb o d q=>g.extBut b o (λz=>d (by rw[z];exact .head _)) q) λb d=>by
  rw[ael.mp d];refine⟨⟨f,.head _⟩,λz=>?_⟩
  have A:=pK.mp R.nodup;rw[aeL,aeU]at A;exact A.1 z
noncomputable def wH (st:Bool) (a:List O) (σ:LS) (K:O->LS->Rs):Rs:=match st with
 |true=>(match σ.room with
  |true=>K (.ref σ.n) (σ.push (.list a))
  |false=>.no)
 |false=>K (.hl a) σ
theorem EZ (l:ak c){D C:aep}(R:SR (c.with ((D,aex m.toArray n)::(C,a)::c.ax)) σ s α N) (r:ah W.kt α N m i){st:Bool}{K:O->LS->Rs}{y}(h:wH st i σ K=y) (o:y≠.no):
  ∃ v b e f,SR (c.with ((C,a)::c.ax)) b s e f/\bh σ α N b e f/\VR W.kt e f (.ref D) v/\K v b=y:=by
 have d:ak (c.with ((C,a)::c.ax)):=l.with λp q=>.tail _ q
 induction st using aee with
 |false=>
  refine ae (SR.hide (c:=c.with ((C,a)::c.ax)) d R) λA g=>?_
  have j:=pK.mp R.nodup;rw[aeL,aeU]at j;have t:D∉α:=λh=>j.1 (by rw[aeO];exact aef _ (R.all D h))
  exact⟨_,_,_,_,A,g,.hl (.head _) t (r.mono g.ge),h⟩
 |true=>
  unfold wH at h;dsimp only at h;split at h
  ·rename_i k;refine ae (SR.adopt (c:=c.with ((C,a)::c.ax)) (ao:=.list i) d k R λg=>.list (r.mono g.ge)) ?_;clear d k r;intro A g
   exact (pP _ _ _ _ A g (.ref (kD R.len)) h)
  ·exact bO h o
noncomputable def bP (st:Bool)(t:CT)(nt:Bool)(a:List (Nat×Nat))(b:iV)(e:Tc)(f:Ev):Ev:=λc k=>Au t nt a b e f c λd c=>wH st d c k
theorem SJ (a:ak c) (b:c.comp=none) (u:aP c d A){e target f:aeD}{i:List aeD}{sc:aft}{pos:Pos}{st:Bool}{t:CT}{nt:Bool}{j:List (Nat×Nat)}{l:iV}{m:Tc}{o:Ev}(H:vV c A target f e i sc t nt j l m o): aE c A (.ListComp e [⟨target,f,i,0⟩] sc pos) (bP st t nt j l m o):=by
 intro L k y h W s M N E R v Q w;rw [eval_ListComp];refine Ew a b u H (use:=none) h W R v λD C x z P n S T V X Z p B g q hk=>?_
 refine pO (EZ a p q hk W) ?_;clear p q hk W;intro qa σ₂ eh dJ r F G hk;refine (ay z (B.ns (r.news (C,x) (aek _ (.head _))).1) (λh' I=>?_))
 exact w _ _ _ _ _ _ hk (r.LJ a b I) (g.trans F) G
noncomputable def k9 (st:Bool)(t:CT)(nt:Bool)(a:List (Nat×Nat))(b:iV)(e:Tc)(f:Ev)(g:Tg):Sc:=λc kn A=>Au t nt a b e f c λd c=>wH st d c λv c=>g v c kn
theorem SK (j:ak c) (k:c.comp=none) (I:aP c d A){f target b:aeD}{i:List aeD}{sc:aft}{pos p a:Pos}{x:Str}{st:Bool}{t:CT}{nt:Bool}{n:List (Nat×Nat)}{o:iV}{q:Tc}{r:Ev}{u:Tg}(H:vV c A target b f i sc t nt n o q r) (L:ain (.ListComp f [⟨target,b,i,0⟩] sc pos) (some (.Name x a)) p.line c.env=pure true) (N:∀ M,(∀ p∈c.ax,p∈M)->kb (c.with M) A (.Name x a) u): bQ c A (.Assign [.Name x a] (.ListComp f [⟨target,b,i,0⟩] sc pos) p) (k9 st t nt n o q r u):=by
 intro σ kn kr qa h l s α qb E R v P S cX;rw [exec_Assign_Name_used _ _ _ _ L];refine aeb (ahF (aeb ?_));show aeF _ A (do let _←comprehension (.ListComp f [⟨target,b,i,0⟩] sc pos) sc c.env _ (newList []) false (eval b c.env) (some (aie (.Name x a) c.env))) _ _ s
 refine aeb (afE (Ew (Q:=λm W=>P .next W) j k I H (use:=some (aie (.Name x a) c.env)) h l R v λD C w T ys qc bu W bG N' acc y V g z hk=>?_) (λm W X=>aeo (aeo X)) λm m e=>e)
 refine pO (EZ j y z hk l) ?_;clear y z hk;intro qd σ₂ eh dJ Z B hv hk;have F:∀ p∈c.ax,p∈(C,w)::c.ax:=λp hp=>.tail _ hp
 show aeF _ A (aie (.Name x a) c.env (.ref D)) _ E W;refine N _ F _ _ _ _ hk l _ _ _ _ _ Z ((v.step (g.trans B).kp).with k F) hv _ λk8 dU ji fY hk G dK=>?_
 refine (ay T (V.ns (G.news (C,w) (aek _ (.head _))).1) (λh' hs=>?_))
 exact S _ _ _ _ hk (G.LJ j k hs) ((g.trans B).toSts.trans dK)
end
theorem rY:Slot "reversed" "__next__" "reversed.__next__" :=
 .of (owner:= "reversed") (n:= "__next__") (by rw[agS,af5];kernel_rfl) (by decide +kernel) (by decide +kernel) (by decide +kernel) (by first|exact .inl (by decide +kernel)|exact .inr (by decide +kernel)) (by rw[isSubtype_type];kernel_rfl)
theorem E1:Manifest.owners.lookup (String.ofList ['d','e','s','r','e','v','e','r'].reverse)=some Manifest.sig_reversed:=by kernel_rfl
theorem DS:entryFor table "reversed.__next__" =some Builtin.«reversed.__next__»:=ajt (by kernel_rfl)
theorem DX (a:aec):argsOk "reversed.__next__" ⟨[a],[]⟩:=by
 unfold argsOk;rw[signature?_of (id:= "reversed.__next__") (n:=['_','_','t','x','e','n','_','_']) (o:=['d','e','s','r','e','v','e','r']) (by kernel_rfl) E1];kernel_rfl
theorem DY:Slot "reversed" "__iter__" "reversed.__iter__" :=
 .of (owner:= "reversed") (n:= "__iter__") (by rw[agS,af5];kernel_rfl) (by decide +kernel) (by decide +kernel) (by decide +kernel) (by first|exact .inl (by decide +kernel)|exact .inr (by decide +kernel)) (by rw[isSubtype_type];kernel_rfl)
theorem Pp (a:aec):argsOk "reversed.__iter__" ⟨[a],[]⟩:=by
 unfold argsOk;rw[signature?_of (id:= "reversed.__iter__") (n:=['_','_','r','e','t','i','_','_']) (o:=['d','e','s','r','e','v','e','r']) (by kernel_rfl) E1];kernel_rfl
theorem Pm:entryFor table "reversed.__iter__" =some Builtin.«dict_keyiterator.__iter__»:=
 entryFor_alias (id':= "dict_keyiterator.__iter__") (by kernel_rfl) (by first|rfl|decide +kernel|(unfold String.splitOn;simp +decide[String.splitOnAux])) (by decide +kernel) (by kernel_rfl)
theorem UO:ahD (.type "tuple") "__reversed__" =pure none:=by rw[agS,af5];kernel_rfl
section
variable{prog:ae0}{w:afh}{A:aeX}{E:aec->aeg->Prop}{s:aeg}
noncomputable def tx(t:aep)(i:Int):Obj:={cls:=.type "reversed",data:=.fields #[.ref t,ae6 i]}
noncomputable def iN(h:afd)(a t:aep)(i:Int):Prop:=∃ o,h.get? a=some o/\o.cls=.type "reversed" /\o.data=.fields #[.ref t,ae6 i]
theorem iN.typeIs (x:iN s.heap a t i):s.TypeIs (.ref a) "reversed" :=(cJ (x) λo w A E=>(ay o w A))
theorem iN.at (x:iN h a t i) (e:∀ o,h.get? a=some o->h'.get? a=some o):iN h' a t i:=(Y (x) λo s r=>(ay o (e _ s) r))
theorem Wo {Q₁:aec->aeg->Prop}(c:IsTup s.heap t b) (d:(b.size:Int)<2^63) (h:Q₁ (.ref s.heap.objs.size) {s with heap:=s.heap.push (tx t ((b.size:Int)-1)),toks:=s.toks+1+1}): agb (aeI prog w) A (.call (.builtin "reversed.__new__") ⟨[.type "reversed",.ref t],[]⟩) (wants Q₁ E) s:=by
 refine codeAny_of_tree ?_
 show aeF _ A.in1 (do ahE "reversed.__new__" ⟨[.type "reversed",.ref t],[]⟩;again (.builtin "reversed.__new__" ⟨[.type "reversed",.ref t],[]⟩)) _ _ s
 refine aeb (agK (F.newCall_reversed_1 _) (aeo ⟨plainId_quiet aiA _,aiB F.entry_reversed_new ?_⟩))
 rw [Around.under_plainId aiA _]
 unfold Builtin.«reversed.__new__»
 refine aeb (agK (newClass_reversed _) ?_)
 try dsimp only
 refine aeb (agK (a:=()) (by first|rfl|kernel_rfl) ?_)
 refine aeb (agK (a:=()) (by first|rfl|kernel_rfl) ?_)
 try dsimp only
 refine aeb (ahQ c.typeIs UO ?_)
 try dsimp only
 refine aeb (aeb (m:=isInstance (.ref t) (.type "dict")) (aik c.typeIs F.sub_tuple_dict ?_))
 try dsimp only
 rw [if_neg (by decide)]
 refine aeb (ahQ c.typeIs ai1.lookup ?_)
 try dsimp only
 rw [if_pos (by decide)]
 refine aeo ?_
 try dsimp only
 rw [if_neg (by decide)]
 refine aeb (len_tuple c d ?_)
 refine aeb (agK (a:=some (b.size:Int)) rfl ?_)
 try dsimp only
 refine aeb (m:=Builtin.SmallTypes.newRecord (.type "reversed") [.ref t,ae6 ((b.size:Int)-1)]) ?_
 show aeF _ _ (newObj (.type "reversed") (.fields [.ref t,ae6 ((b.size:Int)-1)].toArray)) _ _ _
 refine afH ?_
 exact aeo h
theorem zr:TypeCalled "reversed" "reversed.__new__" "object.__init__" :=
 ⟨by decide +kernel,F.create_reversed,(Lv _ _ F.mro_reversed),F.made_reversed,aiA,F.sub_reversed_self, .of (owner:= "object") (n:= "__init__") (by rw[agS,af5];kernel_rfl) (by decide +kernel) (by decide +kernel) (by decide +kernel) (by first|exact .inl (by decide +kernel)|exact .inr (by decide +kernel)) (by rw[isSubtype_type];kernel_rfl)⟩
theorem OY {Q:aec->aeg->Prop}(e:IsTup s.heap t d) (f:(d.size:Int)<2^63) (h:Q (.ref s.heap.objs.size) {s with heap:=s.heap.push (tx t ((d.size:Int)-1)),toks:=s.toks+1+1}):aeF (aeI prog w) A (call (.type "reversed") [.ref t]) Q E s:=by
 refine callType_codes (Q₁:=λa b=>b.TypeIs a "reversed" /\Q a b) zr (F.typeCall_reversed_1 _) F.entry_object_init (Wo e f ⟨(ay _ (aeA _ rfl) rfl),h⟩) λa b c=>?_
 exact (bH c.1 (F.args_object_init_2 a _) (object_init_meets zr.init.lookup zr.made (by decide) prog w A.in1 _ b (bH c.1 rfl c.2)))
theorem UP {c t:aep}{i:Nat}{e:Array aec}{x:aec}{Q:Option aec->aeg->Prop}(f:iN s.heap c t (i:Int)) (g:IsTup s.heap t e) (h:e[i]?=some x) (n:(e.size:Int)<2^62)
  (k:∀ h' tk,iN h' c t ((i:Int)-1)->aiv c s.heap h'->Q (some x) {s with heap:=h',toks:=tk}):aeF (aeI prog w) A (aih (.ref c)) Q E s:=by
 refine cJ (id f) λo d l b=>?_
 have p:i<e.size:=by
  rw[agn]at h
  exact h.1
 unfold aih
 refine aeb (ahJ (afI (name:=agv "__next__") f.typeIs rY
  (afL rY f.typeIs DS ?_ (DX _))))
 unfold Builtin.«reversed.__next__»
 refine aeb (agK (a:=(afi c,[])) rfl ?_)
 try dsimp only
 refine aeb (ae3 d b (x:=.ref t) rfl ?_)
 refine aeb (ae3 d b (x:=ae6 (i:Int)) rfl ?_)
 show aeF _ _ (if (i:Int)<0 then _ else _) _ _ s
 rw[if_neg (by omega)]
 show aeF _ _ (specialOf (.ref t) "__getitem__" >>=_) _ _ s
 refine aeb (ahQ g.typeIs ai1.lookup ?_)
 rw[if_neg (by decide)]
 refine aeb (m:=mkInt (i:Int)) (wpAny_mkInt ?_)
 refine aeb (ahJ (getItem_tuple (j:=i) (x:=x) (ay _ g.choose_spec.1 g.choose_spec.2) (by omega) (by omega) ?_ h ?_))
 ·unfold ai0
  simp only[show ¬ ((i:Int)<0) by omega,if_false]
  rw[if_pos (by simp only[ae4,decide_eq_true_eq];omega)]
  rfl
 try dsimp only
 refine aeb (ae3 d b (x:=ae6 (i:Int)) rfl ?_)
 try dsimp only
 refine aeb (ag3 d b (by simp) ?_)
 refine aeo (ay x rfl (aeo (k _ _ ?_ (agi ..))))
 exact (dI _ (af4 _ d (ahs (af9 b _))) ((Obj.cls_mapFields ..).trans l) (by
  rw[af9 b];simp))
theorem Wp {Q:Option aec->aeg->Prop}(g:A.handled=none) (f:iN s.heap c t (-1)) (h:∀ h',aiW c s.heap h'->Q none {s with heap:=h'}):aeF (aeI prog w) A (aih (.ref c)) Q E s:=by
 refine cJ (id f) λo e j d=>?_
 unfold aih
 refine aeb (ahJ (afI (name:=agv "__next__") f.typeIs rY (afL rY f.typeIs DS ?_ (DX _))))
 unfold Builtin.«reversed.__next__»
 refine aeb (agK (a:=(afi c,[])) rfl ?_)
 try dsimp only
 refine aeb (ae3 e d (x:=.ref t) rfl ?_)
 refine aeb (ae3 e d (x:=ae6 (-1)) rfl ?_)
 show aeF _ _ (if (-1:Int)<0 then _ else _) _ _ s
 rw[if_pos (by decide)]
 refine aeb (ahj ?_)
 have i:(s.heap.update c (ahH (·.setIfInBounds 1 (ae6 (-1))))).get? c=some (o.mapFields (·.setIfInBounds 1 (ae6 (-1)))):=af4 _ e (ahs (af9 d _))
 refine aeb (aeb (ag3 e d (by simp) (ag3 i (af9 d _) (by simp) ?_)))
 refine aeb (m:=ail) ?_
 unfold ail
 refine aeb ?_
 simp only[newExc,newTuple]
 refine aeb (afH ?_ (by size_fits))
 refine aeb (m:=aiT _ _) (agK (a:=agc) (by first|rfl|(simp only[aiT];rfl)) ?_)
 refine afH ?_ (by size_fits)
 simp only[raiseNew]
 refine aeb (wpAny_handled ?_)
 first|rw[show A.in1.handled=none from g]|rw[g]
 refine aeb (aeo (wpAny_throw ?_))
 refine aeb (aik (T:= "StopIteration") (b:=true) (ay _ (aeA _ rfl) rfl) isSubtype_stop ?_)
 exact aeo (h _ ((((agi ..).trans (agi ..)).extBut.push _).push _))
theorem FV{Q:aec->aeg->Prop}(a:iN s.heap b t i) (h:Q (.ref b) s):aeF (aeI prog w) A (ait (.ref b)) Q E s:=by
 refine wpAny_pyIter_slot a.typeIs DY (afL DY a.typeIs Pm ?_ (Pp _));show aeF _ _ (ret (.ref b)) _ _ s;exact aeo (RK _ rfl ("reversed") _ a.typeIs rY.lookup h)
theorem UQ (p:A.handled=none) (I t:aep) (q:t≠I) (a:Array aec) (r:(a.size:Int)<2^62):
  Walks prog w A I [I,t] [I] a.size (λi v=>a[a.size-1-i]?=some v) (λi h=>i<=a.size/\iN h I t ((a.size:Int)-1-(i:Int))/\h.IsTuple t a) where
 sub:=λb c=>by simp at c;simp [c]
 frame:=λd d d x hk=>(bH x.1 (x.2.1.at λo e=>hk I (by simp) o e) (x.2.2.at λo e=>hk t (by simp) o e))
 item:=λi s Q E u x f=>by
  have e:(a.size:Int)-1-(i:Int)=((a.size-1-i:Nat):Int):=by omega
  have g:=x.2.1;rw [e] at g;have l:a[a.size-1-i]?=some (a[a.size-1-i]'(by omega)):=Array.getElem?_eq_getElem (by omega)
  refine UP g x.2.2 l r λk y m n=>?_
  have z:((a.size-1-i:Nat):Int)-1=(a.size:Int)-1-((i+1:Nat):Int):=by omega
  rw [z] at m;exact f _ k y l (bH u m (x.2.2.at λo j=>(n.2 t q).trans j)) λb o c j=>n.extBut b o (λh=>c (by simp [h])) j
 done:=λs Q E x f=>by
  have e:(a.size:Int)-1-(a.size:Int)=-1:=by omega
  have g:=x.2.1;rw [e] at g;exact Wp p g λk B=>f k s.toks λb o c j=>B b o (λh=>c (by simp [h])) j
 self:=λd d d d x f=>FV x.2.1 f
end
section
variable{W:Wd}{c:Cx W}{A:aeX}{d:Nat}
theorem Hs{P a:Nat->aec->afd->Prop}{St:Nat->afd->Prop}(K:KTurns prog w A target I e wr n P a St): KTurns prog w A target I e wr n (λi v h=>i<n/\P i v h) (λi v h=>i<n/\a i v h) St where
 sub:=K.sub;frame:=K.frame;item:=λi s Q E b st d=>K.item i s Q E b st λv W f c hk=>d v W f ⟨b,c⟩ hk
 go:=λi v s Q E c d=>K.go i v s Q E c.2 λW g j hk=>d W ⟨c.1,g⟩ j hk
 done:=K.done
theorem VR.tok (h:VR T α N v a):v=.int i t->VR T α N (.int i t') a:=
 VR.rec (motive_1:=λv a c=>v=.int i t->VR T α N (.int i t') a) (motive_2:=λc c c=>True) (λe=>nomatch e) (λc e=>nomatch e) (λc c e=>by cases e;exact .int _ _) (λc c e=>nomatch e) (λc c c c c c e=>nomatch e) (λc c c e=>nomatch e) (λc c c c e=>nomatch e) (λc e=>nomatch e) (λc e=>nomatch e) (λc d e=>.ty (d e)) (λc c c c e=>nomatch e) (λc c c c e=>nomatch e) (λc e=>.bR rfl) (λc c c e=>nomatch e) trivial (λc c c c=>trivial) (λc c c c c=>trivial) (λc c c=>trivial) h
noncomputable def rh (n:Nat):List Value:=(afT n).map λ(i:Nat)=>Value.int (afs i) 0
theorem FW (h:i<n):(rh n)[i]?=some (Value.int (i:Int) 0):=by
 unfold rh;rw[af1,List.getElem?_range h];rfl
theorem zL:(rh n).length=n:=by unfold rh;rw[ahi,List.length_range]
theorem Wq:∀ {vs:List aec},vs.length=l.length->(∀ (i:Nat) (a:O),l[i]?=some a->∃ v,vs[i]?=some v/\VR T α N v a)->ah T α N vs l:=by
 induction l with
 |nil=>intro vs e _;cases age.mp e;exact .nil
 |cons a l c=>
  intro vs e h;induction vs using aet with
  |nil=>cases e
  |cons v vs=>
   refine Y (h 0 a rfl) λd A W=>?_
   have f:=aea A;subst d;exact .cons W (c (afR e) λi a b=>h (i+1) a b)
theorem SM:ah T α N (rh n) (oO n 0):=by
 refine Wq (by rw[zL,si]) λi a c=>?_
 have d:i<n:=by have:=(aeV.mp c).1;rwa[si]at this
 have e:=zZ c;subst e;refine (ay _ (FW d) ?_);rw[ag8];exact .int _ _
noncomputable def iO (a:Ev):iV:=λc k=>a c λv c=>dR .no v λi=>afw (motive:=λd=>Rs) i (λn=>aN .no (aeQ n (nat_lit 1000)) (k (oO n (nat_lit 0)) none c)) (λd=>.no)
theorem UR (j:ak c) (G:aP c d A){target e:aeD}{H:Nat}{m:Ev}(p:aey e=false) (L:c.scope.names[H]?=some (("range" :Str),aeW)) (a:W.G.boot "range" =true) (M:aE c A e m):
  tw c A target (.Call (.Name "range" rp) [e] [] pos) (iO m):=by
 intro S qa y h f s r N E R T Q V;refine Call_ (jX (v:=.type "range") j L (by decide) a (by decide +kernel) R ?_)
 refine eL (P:=λu=>True) (by rw [afr,p];rfl) (λx u=>(ay _ (.inr (.inl rfl)) (afV rfl))) ?_
 refine agh (M S _ y h f s r N E R T _ λB dj val dk cK bZ h k X l=>?_) (fz p)
 refine ag6 ⟨trivial,?_⟩;refine i3 l h f λz t u h=>?_
 induction z using afw with
 |negSucc=>exact bO h f
 |ofNat n=>
  refine ae (aS h f) ?_;clear h f;intro g h;have g:n<=1000:=aei g;refine D9 j k g λI h' Z cA hk C f5 hit=>?_
  have D:=Walks.range (prog:=W.prog) (w:=W.w) (A:=A) G.handled I 0 1 n;have KT:=Hs (agq (target:=target) D λi B s Q E st q=>Eu (W:=W) st q)
  refine aL C ?_;clear C;intro o ho;have bW:=k.own j (own:=[(I,o)]) (t:=Z) hk (λqb x=>by rw [ael.mp x];exact ⟨ho,f5⟩) (ae5 _ _)
  refine V _ none _ _ _ _ _ h (λi e=>by exact aT e) X k.bt ⟨[(I,o)],[I],[I],rh n,_,_,_,by rw [zL];exact KT,?_,λs Q E st q=>D.self 0 s Q E st q,bW,hit,λb a=>a,λi h st b a=>?_,λb a=>.inl a,SM,by rw [zL];exact g⟩
  ·intro i B h F;refine Ls F ?_;clear F;intro hi t' bj;subst bj;refine (ay _ (FW hi) (λr N qc l=>?_))
   rw [show (0:Int)+(i:Int)*1=(i:Int) from (Int.zero_add _).trans (Int.mul_one _)];exact l.tok rfl
  ·have ig:b=I:=ael.mp a;subst ig;exact ⟨_,st⟩
theorem SN{E:aec->aeg->Prop}{Q:Unit->aeg->Prop}(a:iN s.heap I t i) (h:Q () s):
    WP W A (agP target (.ref I) v) Q E s:=by
  refine cJ a ?_;clear a;intro o c d b;unfold agP;induction target using afB<;>first
    | exact aeo h
    | (induction v using aff<;>first
        | exact aeo h
        | (refine aeb (ajg c ?_)
           rw[d,b];exact aeo h))
noncomputable def ri (a:Ev):iV:=λc k=>a c λv c=>cD .no v λl=>aN .no (and (short l) (aeS l)) (k l.reverse none c)
theorem FX (D:ak c) (F:aP c d A) (R:SR c σ s α N) (m:dE c σ α N b o) (G:o.cls=.type "tuple") (H:o.data=.seq vs.toArray n) (p:ah W.kt α N vs l) (L:short l=true) (e:aeS l=true)
  {Q:aec->aeg->Prop} {E:aec->aeg->Prop} (k:∀ I r,BE c A target l.reverse σ r α N I->Q (.ref I) r):WP W A (call (.type "reversed") [.ref b]) (λx P=>WP W A (ait x) Q E P) E s:=by
 have a:=m.at (M:=c.ax) .refl R;have S:=aeJ a;have T:b≠s.heap.objs.size:=aeE S;have t:=zK p L;have u:s.heap.IsTuple b vs.toArray:=(fC o a G n H);have y:((vs.toArray.size:Nat):Int)<2^62:=Int.lt_of_le_of_lt (Int.ofNat_le.mpr (show vs.length<=1000 from t)) (by decide)
 refine OY u (aiC y (by decide)) ?_
 have z:iN (s.heap.push (tx b ((vs.toArray.size:Int)-1))) s.heap.objs.size b ((vs.toArray.size:Int)-1):=(dI _ (aeA _ rfl) rfl rfl);refine FV z ?_;have V:SR (c.with ([(s.heap.objs.size,tx b ((vs.toArray.size:Int)-1))]++c.ax)) σ {s with heap:=s.heap.push (tx b ((vs.toArray.size:Int)-1)),toks:=s.toks+1+1} α N:=R.own D (λb o q=>aeh _ q) (λqb e=>by
  rw [ael.mp e];exact ⟨aeA _ rfl,aeu _⟩) (ae5 _ _)
 have B:=UQ (prog:=W.prog) (w:=W.w) F.handled s.heap.objs.size b T vs.toArray y;have KT:=Hs (agq (target:=target) B λi v s Q E st q=>SN (W:=W) st.2.1 q)
 have f:vs.toArray.size=vs.reverse.length:=ahM.symm;rw [f]at KT;refine k _ _ ⟨[(s.heap.objs.size,_)],_,_,vs.reverse,_,_,_,KT,?_,λs Q E st q=>B.self 0 s Q E (by rw [f];exact st) q,V,?_,λb a=>a,λi h st b a=>?_,λx g=>?_,p.rev e,aev (af8 ahM) t⟩
 ·intro i v h C;refine ae C ?_;clear C;intro X Z;exact (ay v ((List.getElem?_reverse (ahM▸X)).trans (afo.symm.trans (ahM▸Z))) (λj j j h=>h))
 ·refine (bH (afa _) ?_ (u.at λo qa=>aeh _ qa))
  rw [←f,show (vs.toArray.size:Int)-1-((0:Nat):Int)=(vs.toArray.size:Int)-1 from Int.sub_zero _];exact z
 ·have ig:b=s.heap.objs.size:=ael.mp a;subst ig;refine Y st.2.1 ?_;clear st;intro o ho j;exact ⟨o,ho⟩
 ·rcases aeq.mp g with rfl|g
  ·exact .inl (.head _)
  ·rw [ael.mp g];exact .inr ⟨o,m⟩
theorem US (b:ak c) (k:aP c d A){target e:aeD}{w:Nat}{l:Ev}(m:aey e=false) (x:c.scope.names[w]?=some (("reversed" :Str),aeW)) (z:W.G.boot "reversed" =true) (B:aE c A e l): tw c A target (.Call (.Name "reversed" Z) [e] [] pos) (ri l):=by
 intro C qa y h f s D N E R o qb p;refine Call_ (jX (v:=.type "reversed") b x (by decide) z (by decide +kernel) R ?_)
 refine eL (P:=λF=>True) (by rw [afr,m];rfl) (λj F=>(ay _ (.inr (.inl rfl)) (afV rfl))) ?_
 refine agh (B C _ y h f s D N E R o _ λv dj val dk cK bZ h g q G=>?_) (fz m)
 refine ag6 ⟨trivial,?_⟩;refine Y (dO h f) ?_;clear h o;intro qc H h;subst H;refine ae (aS h f) ?_;clear h f;intro t h;refine ae (ad9.mp t) ?_;clear t;intro u j;rcases G.inv with ⟨a,qd,L,n,e,M,Q,S,T,r⟩|⟨a,L,n,sl,e,V,r⟩
 ·subst e;exact FX b k g (.inr ⟨M,.inl Q⟩) S.1 T r u j λI X K=>p _ none _ _ _ _ _ h (λi e=>nomatch e) q g.bt K
 ·subst e;exact FX b k g (.inl (b.aZ _ _ V)) rfl rfl r u j λI X K=>p _ none _ _ _ _ _ h (λi e=>nomatch e) q g.bt K
end
section
section
variable{prog:ae0}{w:afh}{A:aeX}{E:aec->aeg->Prop}{s:aeg}
noncomputable abbrev xx(h:afd)(a:aep):Heap:=h.push {cls:=.type "tuple_iterator",data:=.fields #[.ref a,.int 0 0]}
noncomputable abbrev xy(h:afd)(a b:aep):Heap:=(xx h a).push {cls:=.type "tuple_iterator",data:=.fields #[.ref b,.int 0 0]}
noncomputable abbrev xA (h:afd)(a b:aep):Heap:=(xy h a b).push {cls:=.type "tuple",data:=.seq #[.ref h.objs.size,.ref (xx h a).objs.size]}
noncomputable abbrev xB(h:afd)(a b:aep):Heap:=(xA h a b).push {cls:=.type "tuple",data:=.seq #[.none,.none]}
noncomputable abbrev oU (h:afd)(a b:aep):Heap:=(xB h a b).push {cls:=.type "zip",data:=.fields #[.none,.bool false,.bool false,.ref (xy h a b).objs.size,.ref (xA h a b).objs.size]}
theorem Pn (a b:aep) (c f:Array aec):
  Meets (Builtin.«zip.__new__» ⟨[.type "zip",.ref a,.ref b],[]⟩) (λn R s=>s.heap.IsTuple a c/\s.heap.IsTuple b f/\
   R (.ok (.ret (.ref (xB s.heap a b).objs.size))) {s with heap:=oU s.heap a b}):=
 .of_wp λprog w A R s h=>by
  obtain ⟨E,g,d,i,os⟩:=s;refine bU h ?_;clear h;intro j k h;have p:=sub_zip;have l:Heap.IsTuple (Shared.heap ⟨E,g,d,i,os⟩) a c:=j;have m:Heap.IsTuple (Shared.heap ⟨E.push {cls:=.type "tuple_iterator",data:=.fields #[.ref a,.int 0 0]},g,d,i,os⟩) b f:=Heap.IsTuple.at k λo e=>aeh _ e
  wp_walk using aga l,aga m;exact (ay _ rfl h)
theorem DZ {Q:aec->aeg->Prop}(m:s.heap.IsTuple a n) (p:s.heap.IsTuple b q) (h:∀ h',agQ h' (s.heap.objs.size+4) (s.heap.objs.size+2) (s.heap.objs.size+3) .none->afC h' (s.heap.objs.size+2) (.ref s.heap.objs.size) (.ref (s.heap.objs.size+1))-> afC h' (s.heap.objs.size+3) .none .none->h'.IsTupleIter s.heap.objs.size a 0->h'.IsTupleIter (s.heap.objs.size+1) b 0->h'.objs.size=s.heap.objs.size+5-> (∀ c o,s.heap.get? c=some o->h'.get? c=some o)->Q (.ref (s.heap.objs.size+4)) {s with heap:=h'}): aeF (aeI prog w) A (call (.type "zip") [.ref a,.ref b]) Q E s:=by
 refine callType_new F.called_zip (by decide) (F.typeCall_zip_2 _ _) (F.newCall_zip_2 _ _) (λr=>F.args_object_init_3 r _ _) F.entry_zip_new (Pn a b n q) (bH m p ?_)
 have d:(xx s.heap a).objs.size=s.heap.objs.size+1:=af0 ..;have e:(xy s.heap a b).objs.size=s.heap.objs.size+2:=by rw [af0,d]
 have f:(xA s.heap a b).objs.size=s.heap.objs.size+3:=by rw [af0,e]
 have g:(xB s.heap a b).objs.size=s.heap.objs.size+4:=by rw [af0,f]
 have t:(oU s.heap a b).objs.size=s.heap.objs.size+5:=by rw [af0,g]
 have i:(oU s.heap a b).get? (xB s.heap a b).objs.size=some _:=aeA _ rfl;have j:(oU s.heap a b).get? (xA s.heap a b).objs.size=some _:=aeh _ (aeA _ rfl);have k:(oU s.heap a b).get? (xy s.heap a b).objs.size=some _:=aeh _ (aeh _ (aeA _ rfl));have l:(oU s.heap a b).get? (xx s.heap a).objs.size=some _:=aeh _ (aeh _ (aeh _ (aeA _ rfl)));have u:(oU s.heap a b).get? s.heap.objs.size=some _:=aeh _ (aeh _ (aeh _ (aeh _ (aeA _ rfl))));show _/\_;rw [e,f,g]at i;rw [d,e]at k;rw [f]at j;rw [d]at l;rw [g];exact⟨(ay _ i rfl),h _ i k j (dI _ u rfl rfl) (dI _ l rfl rfl) t λc o x=> aeh _ (aeh _ (aeh _ (aeh _ (aeh _ x))))⟩
end
variable{W:Wd}{c:Cx W}{A:aeX}{d:Nat}
theorem Aa (u:ak c) (w:c.comp=none) (x:aP c d A){P z:Nat->aec->afd->Prop}{St:Nat->afd->Prop} (KT:KTurns W.prog W.w A target I B wr l.length P z St) (C:∀ M,(∀ p∈c.ax,p∈M)->cy (c.with M) A body D) (F:∀ M,(∀ p∈c.ax,p∈M)->nq (c.with M) A target G) (R:SR (c.with (own++c.ax)) σ s α N) (H:St 0 s.heap) (fq:∀ b∈wr,b∈own.map (·.1)) (L:∀ i h,St i h->∀ b∈own.map (·.1),∃ o,h.get? b=some o) (S:∀ b∈B,b∈own.map (·.1)\/∃ o,dE c σ α N b o) (n:∀ i v h,P i v h->∀ a,l[i]?=some a->Cy W α N h v a) {kn:LS->Rs}(h:ew G D l σ kn kr=y) (j:y≠.no){E:aec->aeg->Prop}(k:bS c y σ α N E){Q:Flow->aeg->Prop}(T:gs c y σ α N kn Q) (V:gu c y σ α N kr Q): agb (aeI W.prog W.w) A (.forLoop target (.ref I) body [] c.env) (λr m=>match r with|.ok f=>Q f m|.error e=>agJ (aeI W.prog W.w) A c.env E e m) s:=by
 refine sh u w x KT C R H fq L S (λM X i v a bu m bG N' q t Z g qb y h j E k Q hQ=>?_) h j k T V
 refine gC (n i v _ t a q) ?_;clear n t q;intro qa vs as e1 e2 e3 e4;exact F M X _ _ _ _ h j _ _ _ _ _ Z k (l7 qa vs as e1 e2 e3 (e4.mono g.ge)) Q hQ
noncomputable def j6 (l:List O):Nat->List O:=aeC (motive:=λc=>Nat->List O) (λc=>[]) (λa c d i=>.tup [.int (afs i),a]::d (afb i)) l
theorem zt:∀ {l:List O}{i:Nat},(j6 l i).length=l.length
 |[],a=>rfl
 |a::l,i=>congrArg (·+1) (zt (l:=l) (i:=i+1))
theorem SO:∀ {i j:Nat}{a:O},(j6 l i)[j]?=some a->∃ b,l[j]?=some b/\a=.tup [.int (afs (i+j)),b]:=by
 induction l with
 |nil=>intro i j a h;exact aT (show none=some a from h)
 |cons b l d=> intro i j a h;induction j using aez with
  |zero=>have f:=aea h;clear h;subst a;exact⟨b,rfl,rfl⟩
  |succ j=>
  have c:(j6 l (i+1))[j]?=some a:=h;refine Y (d c) ?_;clear c;intro A W e;exact (ay A W (by rw [e,show i+1+j=i+(j+1) by omega]))
noncomputable def rj (l:List O):List O->List O:=aeC (motive:=λc=>List O->List O) (λc=>[]) (λa c d r=>match r with
 |[]=>[]
 |b::r=>.tup [a,b]::d r) l
theorem E2:∀ {l r:List O},l.length=r.length->(rj l r).length=l.length
 |[],[],a=>rfl
 |a::l,b::r,h=>congrArg (·+1) (E2 (afR h))
theorem FY:∀ {l r:List O}{j:Nat}{a:O},(rj l r)[j]?=some a->∃ x y,l[j]?=some x/\r[j]?=some y/\a=.tup [x,y]
 |[],r,j,a,h=>by have h':([]:List O)[j]?=some a:=h;simp at h'
 |c::d,[],j,a,h=>by have h':([]:List O)[j]?=some a:=h;simp at h'
 |x::l,y::r,0,a,h=>by have A:=aea h;clear h;subst a;exact⟨x,y,rfl,rfl,rfl⟩
 |x::l,y::r,j+1,a,h=>FY (l:=l) (r:=r) h
end
section
variable{W:Wd}{c:Cx W}{A:aeX}{d:Nat}
theorem vE (P:ak c) (hn:c.comp=none) (S:aP c d A) (rB:∀ M,(∀ p∈c.ax,p∈M)->nq (c.with M) A (.Tuple elts kk V) tg) (ij:∀ M,(∀ p∈c.ax,p∈M)->cy (c.with M) A body cb)
  (R:SR c σ s α N) (el:dE c σ α N b o) (C:o.cls=.type "tuple" \/o.cls=.type "list") (hd:o.data=.seq vs.toArray n) (X:ah W.kt α N vs l) (z:aeS l=true)
  {kn:LS->Rs} (h:ew tg cb (j6 l 0) σ kn kr=y) (hy:y≠.no) {E:aec->aeg->Prop} (hE:bS c y σ α N E) {Q:Flow->aeg->Prop} (cW:gs c y σ α N kn Q) (cX:gu c y σ α N kr Q):
  WP W A (call (.type "enumerate") [.ref b]) (λx dk=>WP W A (ait x) (λit d0=>agb (aeI W.prog W.w) A (.forLoop (.Tuple elts kk V) it body [] c.env) (λr s'=>match r with|.ok f=>Q f s'|.error e=>agJ (aeI W.prog W.w) A c.env E e s') d0) E dk) E s:=by
 have a:=el.at (M:=c.ax) .refl R
 have bN:=aeJ a
 have hlen:=X.len z
 have D:∀ (i:Nat) v (h:afd),(∃ T Z,v=.ref T/\(∃ t x,vs.toArray[i]?=some x/\Z=#[.int i t,x])/\h.IsTuple T Z)->∀ qa,(j6 l 0)[i]?=some qa->Cy W α N h v qa:=by
  intro i v h D qa ha
  refine aH D ?_;clear D;intro T Z g;subst g;intro F hT;obtain ⟨t,x,j,rfl⟩:=F
  refine Y (SO ha) ?_;clear ha;intro b' m g;subst g
  refine Y (X.at z i b' m) ?_;clear X;intro v' q1 q2
  obtain rfl:=aea (q1.symm.trans (afo.symm.trans j))
  refine (l7 T [.int i t,v'] _ rfl hT rfl (.cons ?_ (.cons q2 .nil)))
  rw [ag8]
  exact .int _ _
 have new:∀ {B:afd} {oe L:Obj},B.get? (s.heap.objs.size+1)=some oe->B.get? s.heap.objs.size=some L->(∀ b o,s.heap.get? b=some o->B.get? b=some o)->SR (c.with ([(s.heap.objs.size+1,oe),(s.heap.objs.size,L)]++c.ax)) σ {s with heap:=B,toks:=s.toks} α N:=λm G hk=>R.own P hk (λp z=>by
  rcases aeq.mp z with rfl|z
  ·exact ⟨m,afY _⟩
  ·rw [ael.mp z];exact ⟨G,aeu _⟩) (aeU.mpr ⟨λq=>ag7 _ (ael.mp q),ae5 _ _⟩)
 have ik:∀ x∈[s.heap.objs.size+1,s.heap.objs.size,b],x∈[s.heap.objs.size+1,s.heap.objs.size]\/∃ o,dE c σ α N x o:=λx j=>by
  rcases aeq.mp j with rfl|j
  ·exact .inl (.head _)
  ·rcases aeq.mp j with rfl|j
   ·exact .inl (.tail _ (.head _))
   ·rw [ael.mp j];exact .inr ⟨o,el⟩
 have eS:b≠s.heap.objs.size:=aeE bN
 have LK:b≠s.heap.objs.size+1:=aeE (ae7 bN)
 have NB:A.in1.handled=none:=S.handled
 rcases C with C|C
 ·have H:s.heap.IsTuple b vs.toArray:=(fC o a C n hd)
  refine Pb H λB u I ec hk=>wpAny_pyIter_enum u ?_
  have qb:=pM (prog:=W.prog) (w:=W.w) NB s.heap.objs.size b eS vs.toArray
  have KT:=KTurns.ofWalksU (elts:=elts) (k:=kk) (pos:=V) (WalksT.enumerateD qb (s.heap.objs.size+1) (ag7 _) (λq=>(aeq.mp q).elim (ag7 _) λq=>LK (ael.mp q).symm) (.head _)).toU
  rw [show vs.toArray.size=(j6 l 0).length from hlen.trans zt.symm] at KT
  refine cJ (id I) λL yz uK uL=>?_
  refine Aa P hn S KT ij rB (new u yz hk) (bH ⟨_,u⟩ I (H.at λo e=>hk _ _ e)) (λb a=>a) (λi h st b a=>?_) ik D h hy hE cW cX
  refine bU st ?_;clear st;intro g F u_;obtain ⟨old,m⟩:=g;obtain ⟨o2,G,_⟩:=F
  rcases aeq.mp a with rfl|a
  ·exact ⟨_,m⟩
  ·have e:b=s.heap.objs.size:=ael.mp a
   subst e
   exact ⟨_,G⟩
 ·have H:s.heap.IsList b vs.toArray:=(fC o a C n hd)
  refine call_enumerate_list H λB u I ec hk=>wpAny_pyIter_enum u ?_
  have qb:=Draws.list (prog:=W.prog) (w:=W.w) NB s.heap.objs.size b eS vs.toArray
  have KT:=KTurns.ofWalksU (elts:=elts) (k:=kk) (pos:=V) (WalksT.enumerateD qb (s.heap.objs.size+1) (ag7 _) (λq=>(aeq.mp q).elim (ag7 _) λq=>LK (ael.mp q).symm) (.head _)).toU
  rw [show vs.toArray.size=(j6 l 0).length from hlen.trans zt.symm] at KT
  refine cJ (id I) λL yz uK uL=>?_
  refine Aa P hn S KT ij rB (new u yz hk) (bH ⟨_,u⟩ I (H.at λo e=>hk _ _ e)) (λb a=>a) (λi h st b a=>?_) ik D h hy hE cW cX
  refine bU st ?_;clear st;intro g F u_;obtain ⟨old,m⟩:=g;obtain ⟨o2,G,_⟩:=F
  rcases aeq.mp a with rfl|a
  ·exact ⟨_,m⟩
  ·have e:b=s.heap.objs.size:=ael.mp a
   subst e
   exact ⟨_,G⟩
noncomputable def n8 (a:Tg) (e:Ev) (b:Sc):Sc:=λc kn d=>e c λv c=>cD (lp (dZ .no c.st v λi o=>gF .no o λl=>aN .no (aeS l) (xm i (ew a b (j6 l (nat_lit 0))) c kn d)) v λl=>aN .no (aeS l) (ew a b (j6 l (nat_lit 0)) c kn d)) v λl=>aN .no (aeS l) (ew a b (j6 l (nat_lit 0)) c kn d)
theorem Q9 (j:ak c) (k:c.comp=none) (m:aP c d A){e:aeD}{elts:List aeD}{kk:Nat}{N:Nat}{E:Tg}{F:Ev}{G:Sc}(H:aey e=false) (Q:c.scope.names[N]?=some (("enumerate" :Str),aeW)) (S:W.G.boot "enumerate" =true)
  (T:aE c A e F) (o:∀ M,(∀ p∈c.ax,p∈M)->nq (c.with M) A (.Tuple elts kk V) E) (q:∀ M,(∀ p∈c.ax,p∈M)->cy (c.with M) A body G):
  bQ c A (.For (.Tuple elts kk V) (.Call (.Name "enumerate" rp) [e] [] cp) body [] pos) (n8 E F G):=by
 intro X kn kr y h b s Z qa qb R I qc cW cX
 refine wpAny_For ?_ (pS rfl c.env)
 refine Call_ (jX (v:=.type "enumerate") j Q (by decide) S (by decide +kernel) R ?_)
 refine eL (P:=λu_=>True) (by rw [afr,H];rfl) (λg u_=>(ay _ (.inr (.inl rfl)) (afV rfl))) ?_
 refine agh (T X _ y h b s Z qa qb R I _ λv dj val dk cK bZ h f x z=>?_) (fz H)
 refine ag6 ⟨trivial,?_⟩
 have t:=I.step x.kp
 have u:=cW.step x.toSts
 have w:=cX.step x.toSts
 rcases l8 h with h|⟨l,rfl,h⟩
 ·rcases vI h with h|⟨l,rfl,h⟩
  ·refine pL f z h b λi a l B n L h2 r h=>?_
   refine ae (aS h b) ?_;clear h;intro g h
   exact vE j k m o q (f.bf (f.lt L)) (.inr ⟨h2,.inr (ay i (.head _) L)⟩) (.inr rfl) rfl r g h b (t.bf i) (u.bf f i) (w.bf f i)
  ·refine ae (aS h b) ?_;clear h;intro g h
   refine gC z.inv ?_;intro a B n bj C D r;subst bj
   exact vE j k m o q f (.inr ⟨C,.inl D⟩) (.inr rfl) rfl r g h b t u w
 ·refine ae (aS h b) ?_;clear h;intro g h
  rcases z.inv with ⟨a,qd,B,n,e,C,D,e1,e2,r⟩|⟨a,B,n,sl,e,hl,r⟩
  ·subst e;exact vE j k m o q f (.inr ⟨C,.inl D⟩) (.inl e1.1) e2 r g h b t u w
  ·subst e;exact vE j k m o q f (.inl (j.aZ _ _ hl)) (.inl rfl) rfl r g h b t u w
theorem nC{a b c:aep}(h:a≠b)(h':a≠c):a∉[b,c]:=λq=>(aeq.mp q).elim h λq=>h' (ael.mp q)
theorem iI (S:Nat){i j:Nat}(h:i≠j):S+i≠S+j:=λe=>h (Nat.add_left_cancel e)
theorem mG{b S:Nat}(h:b<S)(i:Nat):S+i≠b:=λe=>absurd h (afk.mpr (e▸aeR _ _))
theorem Ab{S e f:Nat}(a:e<S) (b:f<S):lO (S+4) (S+2) (S+3) S (S+1) [S,e] [S+1,f]:=
 ⟨iI S (by decide),iI S (by decide),iI S (by decide),nC (iI S (j:=0) (by decide)) (mG a _),nC (iI S (by decide)) (mG b _),nC (iI S (j:=0) (by decide)) (mG a _),nC (iI S (by decide)) (mG b _),nC (iI S (j:=0) (by decide)) (mG a _),nC (iI S (by decide)) (mG b _),.head _,.head _, nC (iI S (i:=0) (by decide)) (mG b 0),nC (iI S (j:=0) (by decide)) (mG a _)⟩
theorem rG{b:Type}{p:b->Prop}{a:b}(h:p a):∀ x∈[a],p x:=λx c=>ael.mp c▸h
theorem eU{b:Type}{p:b->Prop}{a:b}{l:List b}(h:p a) (r:∀ x∈l,p x):∀ x∈a::l,p x:=λx c=>(aeq.mp c).elim (λe=>e▸h) (r x)
theorem abx (S:Nat):[S+4,S+2,S+3,S,S+1].Nodup:=List.Pairwise.map (S+·) (λc c h=>iI S h) (show[4,2,3,0,1].Nodup by decide)
theorem E3 (B:ak c) (hn:c.comp=none) (hA:aP c d A) (rB:∀ M,(∀ p∈c.ax,p∈M)->nq (c.with M) A (.Tuple elts kk C) tg) (ij:∀ M,(∀ p∈c.ax,p∈M)->cy (c.with M) A body cb)
  (R:SR c σ s α N) (D:dE c σ α N F o1) (G:dE c σ α N H o2) (k:ah W.kt α N l a) (m:aeS a=true) (n:ah W.kt α N q t) (u:aeS t=true) (I:a.length=t.length)
  {L P:Nat->afd->Prop} (b:ahB W.prog W.w A.in1 s.heap.objs.size [s.heap.objs.size,F] l.toArray.size (λi v=>l.toArray[i]?=some v) L) (e:ahB W.prog W.w A.in1 (s.heap.objs.size+1) [s.heap.objs.size+1,H] q.toArray.size (λi v=>q.toArray[i]?=some v) P)
  (T:agQ h' (s.heap.objs.size+4) (s.heap.objs.size+2) (s.heap.objs.size+3) .none) (V:afC h' (s.heap.objs.size+2) (.ref s.heap.objs.size) (.ref (s.heap.objs.size+1)))
  (X:afC h' (s.heap.objs.size+3) .none .none) (Z:L 0 h') (NC:P 0 h') (hk:∀ c o,s.heap.get? c=some o->h'.get? c=some o)
  {kn:LS->Rs} (h:ew tg cb (rj a t) σ kn kr=y) (hy:y≠.no) {E:aec->aeg->Prop} (hE:bS c y σ α N E) {Q:Flow->aeg->Prop} (cW:gs c y σ α N kn Q) (cX:gu c y σ α N kr Q):
  agb (aeI W.prog W.w) A (.forLoop (.Tuple elts kk C) (.ref (s.heap.objs.size+4)) body [] c.env) (λr s'=>match r with|.ok f=>Q f s'|.error qa=>agJ (aeI W.prog W.w) A c.env E qa s') {s with heap:=h',toks:=s.toks}:=by
 have oV:=aeJ (D.at (M:=c.ax) .refl R)
 have oW:=aeJ (G.at (M:=c.ax) .refl R)
 generalize hS:s.heap.objs.size=S at*
 have qb:lO (S+4) (S+2) (S+3) S (S+1) [S,F] [S+1,H]:=Ab oV oW
 have w:l.toArray.size=a.length:=k.len m
 have x:q.toArray.size=a.length:=(n.len u).trans I.symm
 rw [w] at b
 rw [x] at e
 have KT:=SF b e qb (elts:=elts) (kk:=kk) (pos:=C)
 rw [←E2 I] at KT
 refine aL (b.live _ _ Z) λoi1 uK=>?_
 refine aL (e.live _ _ NC) λoi2 uL=>?_
 have R':SR (c.with ([(S+4,_),(S+2,_),(S+3,_),(S,oi1),(S+1,oi2)]++c.ax)) σ {s with heap:=h',toks:=s.toks} α N:=R.own B hk (by rw [hS];exact eU ⟨T,aeR _ _⟩ (eU ⟨V,aeR _ _⟩ (eU ⟨X,aeR _ _⟩ (eU ⟨uK,aeu _⟩ (rG ⟨uL,aeR _ _⟩))))) (abx S)
 refine Aa B hn hA KT ij rB R' (vx _ _ T V X Z NC) (eU (.head _) (eU (.tail _ (.tail _ (.head _))) (eU (.tail _ (.tail _ (.tail _ (.head _)))) (rG (.tail _ (.tail _ (.tail _ (.tail _ (.head _))))))))) (λi h st=>?_)
  (eU (.inl (.head _)) (eU (.inl (.tail _ (.head _))) (eU (.inl (.tail _ (.tail _ (.head _)))) (eU (.inl (.tail _ (.tail _ (.tail _ (.head _))))) (eU (.inr ⟨_,D⟩) (eU (.inl (.tail _ (.tail _ (.tail _ (.tail _ (.head _)))))) (rG (.inr ⟨_,G⟩)))))))) ?_ h hy hE cW cX
 ·refine kI st ?_;clear st;intro qc b' g j q3 q4 q5
  exact eU ⟨_,g⟩ (eU ⟨_,j⟩ (eU ⟨_,q3⟩ (eU (b.live _ _ q4) (rG (e.live _ _ q5)))))
 ·intro i v h hP qc ha
  refine gC hP ?_;clear hP;intro qd qe y' z hx hy' hp;subst z
  refine aH (FY ha) ?_;clear ha;intro x' y'' g j z;subst z
  refine Y (k.at m i x' g) ?_;clear k m g;intro v1 r1 r2
  refine Y (n.at u i y'' j) ?_;clear n u j;intro v2 r3 r4
  have w:=aea (r1.symm.trans (afo.symm.trans hx))
  have x:=aea (r3.symm.trans (afo.symm.trans hy'))
  exact (l7 qd [qe,y'] _ rfl (fC _ hp rfl _ rfl) rfl (.cons (w▸r2) (.cons (x▸r4) .nil)))
theorem sx (P:ak c) (S:c.comp=none) (l:aP c d A) (T:∀ M,(∀ p∈c.ax,p∈M)->nq (c.with M) A (.Tuple elts kk BG) tg) (V:∀ M,(∀ p∈c.ax,p∈M)->cy (c.with M) A body cb)
  (R:SR c σ s α N) (m:dE c σ α N n a) (q:dE c σ α N t b) (tM:(a.cls=.type "tuple" /\b.cls=.type "tuple")\/(a.cls=.type "list" /\b.cls=.type "list")) (uM:a.data=.seq u.toArray X) (Z:b.data=.seq v.toArray n2)
  (LL:ah W.kt α N u w) (ND:aeS w=true) (LM:ah W.kt α N v z) (NF:aeS z=true) (hlen:w.length=z.length)
  {kn:LS->Rs}(h:ew tg cb (rj w z) σ kn kr=y) (hy:y≠.no){E:aec->aeg->Prop}(hE:bS c y σ α N E){Q:Flow->aeg->Prop}(cW:gs c y σ α N kn Q) (cX:gu c y σ α N kr Q):
  WP W A (call (.type "zip") [.ref n,.ref t]) (λx dk=>WP W A (ait x) (λit d0=>agb (aeI W.prog W.w) A (.forLoop (.Tuple elts kk BG) it body [] c.env) (λr s'=>match r with|.ok f=>Q f s'|.error e=>agJ (aeI W.prog W.w) A c.env E e s') d0) E dk) E s:=by
 have B:=m.at (M:=c.ax) .refl R
 have C:=q.at (M:=c.ax) .refl R
 have oV:=aeJ B
 have oW:=aeJ C
 have k:A.in1.handled=none:=l.handled
 rcases tM with ⟨D,F⟩|⟨D,F⟩
 ·have g:s.heap.IsTuple n u.toArray:=(fC a B D X uM)
  have i:s.heap.IsTuple t v.toArray:=(fC b C F n2 Z)
  refine DZ g i λh' j G H I L ec hk=>aju j ?_
  exact E3 P S l T V R m q LL ND LM NF hlen (pM k _ _ (aeE oV) _) (pM k _ _ (aeE (ae7 oW)) _) j G H ⟨I,g.at λo e=>hk _ _ e⟩ ⟨L,i.at λo e=>hk _ _ e⟩ hk h hy hE cW cX
 ·have g:s.heap.IsList n u.toArray:=(fC a B D X uM)
  have i:s.heap.IsList t v.toArray:=(fC b C F n2 Z)
  refine call_zip_2 g i λh' j G H I L ec hk=>aju j ?_
  exact E3 P S l T V R m q LL ND LM NF hlen (Draws.list k _ _ (aeE oV) _) (Draws.list k _ _ (aeE (ae7 oW)) _) j G H ⟨I,g.at λo e=>hk _ _ e⟩ ⟨L,i.at λo e=>hk _ _ e⟩ hk h hy hE cW cX
noncomputable def CO (st:Tr) (a:O):Option (List O×Option Nat):=lp (dZ none st a λi o=>gF none o λl=>some (l,some i)) a λl=>some (l,none)
noncomputable def Ht (o:Option Nat) (f:LS->(LS->Rs)->Kv->Rs):LS->(LS->Rs)->Kv->Rs:=aeT f (λi=>xm i f) o
noncomputable def AY (a b:List O):Bool:=and (and (aeS a) (aeS b)) (aem a.length b.length)
theorem E4 (h:AY a b=true):aeS a=true/\aeS b=true/\a.length=b.length:=by
 refine ae (ad9.mp h) ?_;clear h;intro c d;refine ae (ad9.mp c) ?_;clear c;intro A W;exact (bH A W (aed d))
noncomputable def qL (e:Tg) (i j:Ev) (f:Sc):Sc:=λc kn W=>i c λa c=>j c λb c=>cD (aD .no (CO c.st a) λd=>aD .no (CO c.st b) λA=>aN .no (AY d.1 A.1) (Ht d.2 (Ht A.2 (ew e f (rj d.1 A.1))) c kn W)) a
 λg=>cD .no b λh=>aN .no (AY g h) (ew e f (rj g h) c kn W)
theorem dE.bf (h:dE c σ α N b o) (i:Nat):dE c (σ.bf i) α N b o:=by
 rcases h with h|⟨h,d⟩
 ·exact .inl h
 ·refine .inr ⟨h,?_⟩;rcases d with d|⟨j,A,e⟩
  ·exact .inl d
  ·exact .inr (ay j (.tail _ A) e)
theorem zN (f:ak c) (g:VR W.kt α N v (.tup l)):∃ b o vs n,dE c σ α N b o/\o.cls=.type "tuple" /\o.data=.seq vs.toArray n/\ah W.kt α N vs l/\v=.ref b:=by
 rcases g.inv with ⟨a,o,vs,n,e,d,A,h,i,r⟩|⟨a,vs,n,k,e,j,r⟩
 ·exact (ze a o vs n (.inr ⟨d,.inl A⟩) h.1 i r e)
 ·exact (ze a _ vs n (.inl (f.aZ _ _ j)) rfl rfl r e)
theorem GC (R:SR c σ s α N) (f:VR W.kt α N v a) (h:CO σ.st a=some (l,oi)): ∃ b o vs n,v=.ref b/\o.cls=.type "list" /\o.data=.seq vs.toArray n/\ah W.kt α N vs l/\(∀ i,oi=some i->i<σ.n)/\dE c (fH oi σ) α N b o:=by
 rcases vI h with h|⟨A,rfl,h⟩
 ·refine pL R f h aO λi x A vs n d g r h=>?_
  cases aea h
  exact (vj _ _ _ _ rfl rfl rfl r (λi e=>aea e▸R.lt d) (.inr ⟨g,.inr (ay i (.head _) d)⟩))
 ·cases aea h;refine gC f.inv ?_;clear f;intro a vs n j k m r;subst j;exact (vj _ _ _ _ rfl rfl rfl r (λi e=>nomatch e) (.inr ⟨k,.inl m⟩))
theorem SR.fH (R:SR c σ s α N) (h:∀ i,oi=some i->i<σ.n):SR c (fH oi σ) s α N:=by
 induction oi using aer with
 |none=>exact R
 |some i=>exact R.bf (h i rfl)
theorem SP (f:ak c) (u:c.comp=none) (w:aP c d A){x y:aeD}{elts:List aeD}{kk:Nat}{nn:Nat}{tg:Tg}{c1 c2:Ev}{cb:Sc}(LN:aey x=false) (LO:aey y=false) (hx:c.scope.names[nn]?=some (("zip" :Str),aeW)) (hb:W.G.boot "zip" =true)
  (CP:aE c A x c1) (CQ:aE c A y c2) (z:∀ M,(∀ p∈c.ax,p∈M)->nq (c.with M) A (.Tuple elts kk BG) tg) (B:∀ M,(∀ p∈c.ax,p∈M)->cy (c.with M) A body cb):
  bQ c A (.For (.Tuple elts kk BG) (.Call (.Name "zip" rp) [x,y] [] cp) body [] pos) (qL tg c1 c2 cb):=by
 intro σ kn kr qb h a qe α qf qc qd L qh cW cX
 refine wpAny_For ?_ (pS rfl c.env)
 refine Call_ (jX (v:=.type "zip") f hx (by decide) hb (by decide +kernel) qd ?_)
 refine eL (P:=λu_=>True) (by rw [afr,afr,LN,LO];rfl) (λC u_=>(ay _ (.inr (.inl rfl)) (afV rfl))) ?_
 refine agh (CP σ _ qb h a qe α qf qc qd L _ λqi dj Wr dk cK bZ h dn N tz=>?_) (fz LN)
 refine agh (CQ dj _ qb h a dk cK bZ qc dn (L.step N.kp) _ λqj D Ws d0 eh dJ h b Q la=>?_) (fz LO)
 refine ag6 ⟨trivial,?_⟩
 have E:=(L.step N.kp).step Q.kp
 have F:=(cW.step N.toSts).step Q.toSts
 have G:=(cX.step N.toSts).step Q.toSts
 have Av:=tz.mono Q.ge
 rcases l8 h with h|⟨l1,rfl,R⟩
 rotate_left
 ·refine Y (dO R a) ?_;clear L cW cX;intro l2 e S;subst e
  refine ae (aS S a) λC h4=>?_
  refine bU (E4 C) λk l m=>?_
  refine ir (zN f (σ:=D) Av) λb1 H CR n1 T n o q x=>?_
  refine ir (zN f (σ:=D) la) λb2 g uN n2 I r s t y=>?_
  subst x y
  exact sx f u w z B b T I (.inl ⟨n,r⟩) o s q k t l m h4 a E F G
 ·refine Y (aR h a) λe NG R=>?_;obtain ⟨l1,H⟩:=e
  refine Y (aR R a) ?_;clear R;intro e NH S;obtain ⟨l2,g⟩:=e
  refine ae (aS S a) ?_;clear S;intro C h
  refine bU (E4 C) ?_;clear C;intro k l m
  refine zb (GC b Av NG) ?_;clear Av NG tz;intro b1 ob1 CR n1 e n o q i1 T;subst e
  refine zb (GC b la NH) ?_;clear la NH;intro b2 ob2 uN n2 e r s t i2 I;subst e
  have bW:=b.fH i1
  have V:dE c (fH g (fH H D)) eh dJ b2 ob2:=by
   induction H using aer with
   |none=>exact I
   |some i=>
    induction g using aer with
    |none=>exact dE.bf (σ:=D) I i
    |some j=>
     rcases I with h|⟨h,h'⟩
     ·exact .inl h
     ·refine .inr ⟨h,?_⟩
      rcases h' with h'|⟨qg,hk,qa⟩
      ·exact .inl h'
      ·refine .inr (ay qg ?_ qa)
       rcases aeq.mp hk with rfl|hk
       ·exact .head _
       ·exact .tail _ (.tail _ hk)
  have X:dE c (fH g (fH H D)) eh dJ b1 ob1:=by
   induction g using aer with
   |none=>exact T
   |some j=>exact T.bf j
  have Z:=bW.fH (oi:=g) λi qa=>by rw [GA];exact i2 i qa
  induction H using aer with
  |none=>
   induction g using aer with
   |none=>exact sx f u w z B Z X V (.inr ⟨n,r⟩) o s q k t l m h a E F G
   |some j=>exact sx f u w z B Z X V (.inr ⟨n,r⟩) o s q k t l m h a (E.bf j) (F.bf b j) (G.bf b j)
  |some i=>
   induction g using aer with
   |none=>exact sx f u w z B Z X V (.inr ⟨n,r⟩) o s q k t l m h a (E.bf i) (F.bf b i) (G.bf b i)
   |some j=>exact sx f u w z B Z X V (.inr ⟨n,r⟩) o s q k t l m h a ((E.bf i).bf j) ((F.bf b i).bf bW j) ((G.bf b i).bf bW j)
noncomputable def lQ (n:Nat) (l:List (Nat×O)):List (Nat×O):=aeC [] (λe d c=>aen (e::c) c (aem n e.1)) l
theorem SQ:lQ n (e::l)=if n=e.1 then lQ n l else e::lQ n l:=by
 show aen (motive:=λc=>List (Nat×O)) (e::lQ n l) (lQ n l) (aem n e.1)=_
 induction q:aem n e.1 using aee with
 |true=>rw[if_pos (aed q)]
 |false=>rw[if_neg λh=>by rw[h,afz]at q;exact gr q]
theorem GD:lk j (lQ n l)=some v->j≠n/\lk j l=some v:=by
 induction l with
 |nil=>exact λh=>nomatch h
 |cons e l d=>
  intro h;rw[SQ]at h;rw[eC];by_cases q:n=e.1
  ·rw[if_pos q]at h;refine ae (d h) λc A=>?_
   exact⟨c,(if_neg λz=>c (z.trans q.symm)).trans A⟩
  ·rw[if_neg q,eC]at h;by_cases r:j=e.1
   ·rw[if_pos r]at h;exact⟨λz=>q (z▸r),(if_pos r).trans h⟩
   ·rw[if_neg r]at h;refine ae (d h) ?_;clear d h;intro c A;exact⟨c,(if_neg r).trans A⟩
noncomputable def LS.locs (σ:LS) (l:List (Nat×O)):LS:=LS.rec (motive:=λd=>LS) (λd c t n lo m=>⟨l,c,t,n,lo,m⟩) σ
theorem SR.locs (a:c.comp=none) (R:SR c σ s α N) (h:∀ j v,lk j l=some v->lk j σ.loc=some v):SR c (σ.locs l) s α N:=by
 refine⟨?_,R.aK,R.news,R.nodup,R.inj,R.obj,R.all,R.hi,R.wf,R.bD,R.len,R.low,R.bt,R.gens,R.os,R.aZ⟩;refine Y R.fr ?_;clear R;intro m F d;refine (ay m F ?_);unfold NR at d ⊢;rw[a]at d ⊢;exact λj v e=>d j v (h j v e)
noncomputable def CS (a:O):O:=et a (λc a=>a) a
noncomputable def NI (r:Rs) (b:Bool):Bool:=Rs.casesOn (motive:=λc=>Bool) r (λc=>b) (λc=>false) false
theorem Wt(h:NI r b=true):(∃ v,r=.ok v)/\b=true:=by induction r using Rs.casesOn with
 |ok v=>exact⟨⟨v,rfl⟩,h⟩
 |_=>exact aX h
noncomputable def pureE (n:Nat) (b:Ev) (σ:LS) (l:List O):Bool:=aeC true (λa d c=>NI (b ⟨(n,CS a)::σ.loc,σ.aK,σ.st,σ.n,σ.n,σ.mark⟩ (fW σ.n)) c) l
theorem Qj (h:pureE n b σ (a::l)=true):(∃ v,b ⟨(n,CS a)::σ.loc,σ.aK,σ.st,σ.n,σ.n,σ.mark⟩ (fW σ.n)=.ok v)/\pureE n b σ l=true:=Wt h
theorem SS(h:a.sure=true):CS a=a:=by
 rcases fD a with⟨c,v,rfl⟩|d
 ·exact aX h
 ·exact d _ _
theorem Qk:ah T α N (v::vs) l->pureE n f σ l=true->
  ∃ a g,VR T α N v a/\(∃ v,f ⟨(n,a)::σ.loc,σ.aK,σ.st,σ.n,σ.n,σ.mark⟩ (fW σ.n)=.ok v)/\ah T α N vs g/\pureE n f σ g=true:=by
 induction l with
 |nil=>exact λh m=>nomatch h.nil_inv
 |cons b l W=>
  intro h e;refine ae (Qj e) ?_;clear e;intro A c;rcases h.wu with ⟨i,w,j,q,d,r⟩|⟨q,a,rfl,⟨k,w,j,q,d,r⟩|⟨k,r⟩⟩
  ·cases q;exact (pY b l d (SS i▸A) r c)
  ·cases q;exact (pY a l d A r c)
  ·exact W r c
noncomputable def wJ (n:Nat) (a:Ev) (b:Ev):Sc:=λc kn d=>a c λv c=>cD .no v λl=>aN .no (pureE n b (c.locs (lQ n c.loc)) l) (kn (c.locs (lQ n c.loc)))
inductive Hu (c:Cx W) (wK:LS) (α:List aep) (N:Led) (I:aep) (St:Nat->afd->Prop) (vs:List aec) (fn:List O->Bool):Nat->aeg->Prop
 |mk (i:Nat) (oI:Obj) (bG:List aep) (N':Led) (l':List O){s':aeg}(R:SR (c.with ([(I,oI)]++c.ax)) wK s' bG N') (g:Sts wK α N wK bG N') (st:St i s'.heap) (hi:i<=vs.length) (hv:ah W.kt α N (vs.drop i) l') (hp:fn l'=true):Hu c wK α N I St vs fn (vs.length+1-i) s'
theorem SU (u:ak c) (D:c.comp=none) (hA:aP c d A) (hs:hJ iter=true) (hx:c.scope.names[n]?=some (x,.local)) (wj:eJ e=false) (hit:aE c A iter it) (yx:∀ M,(∀ p∈c.ax,p∈M)->aE (c.with M) A e ce):
    bQ c A (.For (.Name x xp) iter [.Expr e pe] [] pos) (wJ n it ce):=by
  intro E kn kr qd h F qa α qe qb qf hE qg cW cX;refine wpAny_For ?_ (pS hs c.env);refine hit E _ qd h F qa α qe qb qf hE _ λv Q val k y z h R hY hv=>?_
  have AQ:=cW.step hY.toSts;refine Y (dO h F) ?_;clear h hE cW cX;intro qh C h;subst C;refine ae (aS h F) ?_;clear h F;intro r h
  · · generalize S:Q.locs (lQ n Q.loc)=g at*
      have R₀:SR c g k y z:=S▸R.locs D λj v e=>(GD e).2
      have aby:Sts Q y z g y z:=S▸⟨.refl,aeu _,λf f=>rfl,aeu _,rfl,λf f f f f h f=>h,λf f=>⟨rfl,λf f f h=>h⟩⟩
      refine ir (zN u (σ:=g) hv) ?_;clear hv;intro b o l nn T tM hd ie C;subst C;have m:=T.at (M:=c.ax) .refl R₀;have bN:=aeJ m;have eS:b≠k.heap.objs.size:=aeE bN;have ht:k.heap.IsTuple b l.toArray:=(fC o m tM nn hd);refine aga ht ?_;have Wk:=Walks.tuple (prog:=W.prog) (w:=W.w) hA.handled k.heap.objs.size b eS l.toArray;have KT:=agq (target:=.Name x xp) Wk λi v qa qg qb st q=>letGo_tupleiter st.1 q
      rw [show l.toArray.size=l.length from rfl] at KT;have Wu:SR (c.with ([(k.heap.objs.size,_)]++c.ax)) g {k with heap:=k.heap.push {cls:=.type "tuple_iterator",data:=.fields #[.ref b,.int 0 0]}} y z:=R₀.own u (t:=k.toks) (λb o q=>aeh _ q) (λp r=>by
        rw [ael.mp r];exact ⟨aeA _ rfl,aeu _⟩) (ae5 _ _)
      refine codeAny_forLoop_any (Hu c g y z k.heap.objs.size (λi h=>h.IsTupleIter k.heap.objs.size b i/\h.IsTuple b l.toArray) l (pureE n ce g)) ?_ (l.length+1)
        (.mk 0 _ y z qh Wu .refl ⟨(dI _ (aeA _ rfl) rfl rfl),ht.at λo e=>aeh _ e⟩ (afa _) (by rw [aiR];exact ie) r)
      intro qk V hI;obtain ⟨i,oI,bG,N',l',X,G,mV,hi,Z,lN⟩:=hI;have ks:∀ M:Led,∀ p∈c.ax,p∈M++c.ax:=λM p r=>aek _ r
      by_cases B:i<l.length
      · refine KT.item i _ _ _ B mV λv h₁ tk₁ uF mD=>?_
        refine KT.go i v _ _ _ uF λlx hP mj te=>?_
        have hk:∀ b o,b∉[k.heap.objs.size]->V.heap.get? b=some o->lx.get? b=some o:=λb o m q=>te b o m (mD b o m q)
        have gW:l[i]?=some v:=afo▸hP;rw [ahO B,show l[i]=v from aea ((aeN B).symm.trans gW)] at Z;refine eI (Qk Z lN) ?_;clear Z lN;intro a uI gZ C wx abz;obtain ⟨H,hpv⟩:=C;refine cJ (id mj.1) λs Hv CU NJ=>?_
        have cA:=X.jh u (own':=[(k.heap.objs.size,s)]) (t:=tk₁) rfl hk (λp r=>by rw [ael.mp r];exact Hv)
        have qK:ak (c.with ([(k.heap.objs.size,s)]++c.ax)):=u.with (ks _);have Wv:∀ p∈c.ax,p∈[(k.heap.objs.size,s)]++c.ax:=ks _;refine FE qK D hx a g (λE=>haveI:=ahc (E=g.locs ((n,a)::g.loc));if E=g.locs ((n,a)::g.loc) then .ok H else .no) (.ok H) (if_pos rfl) nofun _ _ _ _ v cA (λqi e bu V bG N' q=>by contradiction) (gZ.mono G.ge) _ λk8 dU I fY L bW dK=>?_
        have L:k8=g.locs ((n,a)::g.loc):=by
          refine ajj λq=>?_
          dsimp only at L;rw [if_neg q] at L;contradiction
        subst L;refine ago (aiP ?_ (by unfold interactive;rw [show c.env.scope.kind=.function from u.kind];rfl) (jU wj _ _ _))
        refine yx _ Wv _ _ (.ok H) hpv nofun _ _ _ _ bW.calm (λqi e bu V bG N' q=>by contradiction) _ λxr mF val kd wz N tn oR xC xu=>?_
        refine ae (aS (show aN .no (aeQ g.n mF.lo) (fV g.n xr mF)=.ok H from tn) nofun) ?_;clear tn;intro P Gz
        · have P:=aei P
          refine ae (bW.restore oR xC P) ?_;clear bW oR xC P;intro xv oS;have hj:∀ j v,lk j g.loc=some v->lk j ((n,a)::g.loc)=some v:=λj v q=>by
            rw [eC,if_neg]
            · exact q
            · rintro rfl
              rw [←S] at q;exact (GD q).1 rfl
          have rg:SR (c.with ([(k.heap.objs.size,s)]++c.ax)) g kd I N:=SR.locs (c:=c.with ([(k.heap.objs.size,s)]++c.ax)) (σ:=g.locs ((n,a)::g.loc)) D xv hj;have gz:Sts (g.locs ((n,a)::g.loc)) I N g I N:=⟨.refl,aeu _,λf f=>rfl,aeu _,rfl,λf f f f f h f=>h,λf f=>⟨rfl,λf f f h=>h⟩⟩
          have qc:=G.trans (dK.trans (oS.toSts.trans gz));refine ahh (ay _ (zI B) (.mk (i+1) s I N uI rg qc (KT.frame _ _ _ mj λb m o q=>?_) B wx abz))
          rcases aeq.mp m with rfl|m
          · rw [Hv] at q
            cases q
            exact (rg.news (k.heap.objs.size,s) (aek _ (.head _))).1
          · rw [ael.mp m] at q ⊢
            have q1:=T.at G cA;have q2:lx.get? _=some _:=q1;rw [q] at q2
            cases q2
            exact T.at qc rg
      · have nA:i=l.length:=ajB hi (afk.mp B)
        subst nA;refine KT.done _ _ _ mV λh₁ tk₁ mD=>ahh ?_
        have R:=SR.AS (M':=c.ax) (wr:=[k.heap.objs.size]) (tk₁:=tk₁) u D X (aji _ _) mD λb m=>by
          rw [ael.mp m];refine ⟨⟨oI,.head _⟩,λqj=>?_⟩
          have nd:=pK.mp X.nodup;rw [aeL,aeU] at nd;exact nd.1 qj
        exact AQ _ _ _ _ h R (aby.trans G)
section
variable{prog:ae0}{w:afh}{A A₀:aeX}{s:aeg}{L:aep}{h₀ base:afd}{m:Str->Option aec}{news:List (aep×Obj)}
theorem PM{R:aif->aeg->Prop} (B:Below A₀ base j h₀) (F:Fr h₀ L s.heap m) (N:agD h₀ L s.heap news) (r:h₀.NoLimit) (k:A.frames=some (env::j)) (l:env.frame=some L) (n:env.scope.kind=.function) (t:s.heap.get? f=some fo) (u:fo.data=.func fd) (z:fd.body=.expr body) (C:fd.globals=ae1) (D:fd.builtins=agG) (E:s.heap.CodeRec fd.code fd.qualname) (G:A.depth<recursionLimit) (H:agC fd args=pure binds) (I:∀ y∈binds,fd.scope.names.lookup y.1=some .local) (h:∀ g L' h₁,Fr h₀ L g m->Fr g L' h₁ (λy=>binds.reverse.lookup y)->agD g L' h₁ news->Below A base (env::j) g-> aeF (aeI prog w) (A.deeper (envX fd.qualname fd.scope L' f fd.code fd.closure)) (eval body (envX fd.qualname fd.scope L' f fd.code fd.closure)) (λv a=>LeaveK h₀ L m g R v a) (λe a=>aeF (aeI prog w) (A.deeper (envX fd.qualname fd.scope L' f fd.code fd.closure)) (leaving (envX fd.qualname fd.scope L' f fd.code fd.closure) e) (λq i=>R (.error e) i) (λM i=>R (.error M) i) a) {s with heap:=h₁,toks:=s.toks+binds.length}) (P:fd.scope.isCoroutine=false) (Q:fd.scope.isGenerator=false) (hk:fd.scope.kind=.function) (S:∀ x∈fd.scope.names,x.2≠.cell):agb (aeI prog w) A (.call (.ref f) args) R s:=by
 refine j4 (groundX (R:=R) B F N k l n) ?_;clear B k l n;intro T V st X;refine kla_callFunE G t u P Q z E ?_;rw[H];refine aeo (wpAny_newFunctionEnv S I (λh₁ Z d=>⟨(r.keeps F.keep).fresh _ d,?_⟩) hk)
 have e:newEnv fd.scope s.heap.objs.size fd.globals fd.closure (fd.qualname++".<locals>.") (some f) fd.code none fd.builtins=envX fd.qualname fd.scope s.heap.objs.size f fd.code fd.closure:=by rw[C,D];rfl
 rw[e];have W:∀ b o,s.heap.get? b=some o->h₁.get? b=some o:=λb o e=>d.extBut b o (aeE (aeJ e)) (aeh _ e)
 exact kla_codeExpr (afE (h _ s.heap.objs.size h₁ T ⟨Z,λb o e=>W b o (aiD _ e),af8 (hideAll_size _ _)⟩ (λp c=>(bH (W _ _ (N p c).1) (aeE (aeJ (N p c).1)) (hideAll_none _ (aew c)))) V) (λv a hl=>X _ _ hl) λq q y=>y)
end
inductive ly where
 |e(slot:Nat)(b:Call->Ev)
 |s(slot:Nat)(b:Call->Sc)
noncomputable abbrev BH:=Nat->Option ly
structure xD (d:mS)(slot:Nat):Prop where
 slot:d.scope.names[slot]?=some (d.param,.local)
 cV:(d.scope.names.map (·.1)).Nodup
 cell:∀ x∈d.scope.names,x.2≠.cell
 co:d.scope.isCoroutine=false
 gen:d.scope.isGenerator=false
 kind:d.scope.kind=.function
inductive gN (W:Wd)(d:mS):ly->Prop
 |e{slot b body}:xD d slot->d.body=.expr body->(∀ call d',dv W d' call->∀ (c:Cx W)A,ak c->aP c d' A->c.comp=none->c.scope=d.scope->aE c A body (b call))->gN W d (.e slot b)
 |s{slot b body}:xD d slot->d.body=.stmts body->(∀ call d',dv W d' call->∀ (c:Cx W)A,ak c->aP c d' A->c.comp=none->c.scope=d.scope->cy c A body (b call))->gN W d (.s slot b)
noncomputable def oa(W:Wd)(C:BH):Prop:=∀ id E,C id=some E->∃ d,W.kt.bY id=some d/\gN W d E
noncomputable def LS.atC (σ:LS) (b:Nat) (aK:List (Nat×Nat)) (a:O):LS:=LS.rec (motive:=λc=>LS) (λc c t n lo m=>⟨[(b,a)],aK,t,n,lo,m⟩) σ
noncomputable def runC (E:ly) (call:Call) (e:List (Nat×Nat)) (args:List O):Ev:=λc k=>iR .no args λa=>ly.casesOn (motive:=λW=>Rs) E (λA b=>b call (c.atC A e a) (λv d=>k v (back c d))) (λA b=>b call (c.atC A e a) (λd=>k .none (back c d)) (λv d=>k v (back c d)))
theorem SV {d':Nat} {call:Call} (qC:dv W d' call) (j:ak c) (hf:A.frames=some (c.bF::c.outer)) (hd:A.depth+1+16*d'<=890) (hu:A.units+3+80*d'<=9000) (hh:A.handled=none)
  (qf:gN W D E) (R:SR c σ s α N) (hm:(a,o)∈N) (hO:qr α N o D aK) (hv:ah W.kt α N vals args) (hp:aeS args=true) {k:Kv} {y:Rs}
  (h:runC E call aK args σ k=y) (G:y≠.no) {Er:aec->aeg->Prop} (hE:jn c y σ α N Er)
  {H:aif->aeg->Prop} (kQ:∀ v av P t Q p,k av P=y->SR c P t Q p->bh σ α N P Q p->VR W.kt Q p v av->H (.ok (.ret v)) t) (kE:∀ e t,Er e t->H (.error e) t):
  agb (aeI W.prog W.w) A (.call (.ref a) ⟨vals,[]⟩) H s:=by
 refine Y (jb h G) ?_;clear h;intro av I h;subst I
 refine Y (kS hv hp) ?_;clear hv hp;intro v I gZ;subst I
 refine vk hO ?_;clear hO;intro fd e1 e2 e3 e4 e5 e6 I NK;obtain ⟨cc,oc,vs,qc,e7,e8,e9,e10,e11⟩:=I
 refine Y R.fr λm qd ez=>?_
 have nv:A.depth<recursionLimit:=zX hd
 have lR:s.heap.CodeRec fd.code fd.qualname:=(pP cc oc vs qc e7 (R.get e8) e10 e11)
 obtain ⟨name,qual,params,adV,scope,globals,cl,dV,kV,doc,pm,an,dC,ct,blt⟩:=fd
 dsimp only at e2 e3 e4 e5 e6 NK lR
 subst e2 e3 e4 e5
 let S:aep->Env:=λd=>envX qual D.scope d a dC cl
 let q:afd->aep->Cx W:=λg d=>⟨A,c.base,c.bF::c.outer,g,d,S d,S d,none,c.ax⟩
 have ctx:∀ i,xD D i->∀ g d u tk,Fr c.h₀ c.L g m->Fr g d u (λy=>[(D.param,v)].reverse.lookup y)->agD g d u (N++c.ax)->Below A c.base (c.bF::c.outer) g->
   ak (q g d)/\aP (q g d) d' (A.deeper (S d))/\SR (q g d) (σ.atC i aK av) {s with heap:=u,toks:=tk} α N:=by
  intro i B g d u tk r L p T
  have st:c.h₀.StaysIn g:=r.keep
  have V:ak (q g d):=⟨j.g,j.aZ.keeps st,j.lim.keeps st,T,B.kind,B.kind,rfl,rfl,rfl,rfl,by refine gH j.top λqg l mg mb qh=>?_;exact (nU qg l mg mb (qh.keeps st)),B.cV,j.kZ,j.lr,j.mT,λb=>rfl,(λb b e=>nomatch e),j.nk⟩
  refine (bH V ⟨by show A.frames.map _=_;rw[hf];rfl,hd,hu,hh⟩ ⟨(ay _ L (λql w hj=>?_)),NK,p,R.nodup,R.inj,R.obj,R.all,R.hi,R.wf,R.bD,R.len,R.low,R.bt,R.gens,R.os,V.aZ.keeps L.keep⟩)
  refine ae (As hj) ?_;clear hj;intro I pn;subst I;subst pn
  exact (dx D.param .local v B.slot (by show ahL _ _=_;rw[agg,List.reverse_nil,List.nil_append,afq,beq_self_eq_true]) gZ)
 have X:∀ i,Sts σ α N (σ.atC i aK av) α N:=λi=>⟨.refl,aeu _,λb b=>rfl,aeu _,rfl,λb b b b b h b=>h,λb b=>⟨rfl,λb b b h=>h⟩⟩
 have leave:∀ g d {x:LS} {z:aeg} {C F} {v},SR (q g d) x z C F->Sts σ α N x C F->(SR c (back σ x) z C F->bh σ α N (back σ x) C F->H (.ok (.ret v)) z)->LeaveK c.h₀ c.L m g H v z:=by
  intro g d x z C F v f n k
  refine Y f.fr λm₂ q9 oq=>?_
  exact leaveK_ q9 f.news λjr fY=>k ⟨(ay m jr (ez.mono n.ge)),R.aK.mono n.ge,fY,f.nodup,f.inj,f.obj,f.all,f.hi,f.wf,f.bD,f.len,f.low,(λqi h=>f.bt qi (n.mark▸h)),f.gens,f.os,f.aZ⟩ ⟨⟨n.ge,n.lo,n.same,n.n,rfl,n.obs,n.bf⟩,rfl⟩
 have exc:∀ i g d,Fr c.h₀ c.L g m->aP (q g d) d' (A.deeper (S d))->bS (q g d) y (σ.atC i aK av) α N (λe t=>aeF (aeI W.prog W.w) (A.deeper (S d)) (leaving (S d) e) (λb rH=>H (.error e) rH) (λe' rH=>H (.error e') rH) t):=by
  intro i g d r M qj e P t Q p qa kp qe
  have uD:Kp σ α N (back σ P) Q p:=⟨((X i).kp.trans kp).ge,rfl,((X i).kp.trans kp).bf⟩
  obtain ⟨hg,nu,_⟩:=id qe
  refine Ej (c':=q g d) M.frames rfl qe λBs B qm m₁ h' ea b1 b2 b3 b4 b5 b6 b7 b8 b9=>kE _ _ (hE qj e (back σ P) _ Q p qa uD rfl ⟨hg,nu,Bs,B,g,m,ea,b1,r,ez.mono uD.ge,λqb o q1 q2=>b3 qb o (b2.keep qb o q1) λZ=>?_,λqa hq=>?_,(agz b2.keep).trans b5,b6,b7,b8,.inr ?_⟩)
  ·rcases (ES (l:=c.bF::c.outer) (show (q g d).bF.frame=some d from rfl)).mp Z with Z|Z
   ·rw[Z,kts_self b2]at q1;exact aT q1
   ·exact q2 Z
  ·refine bU (b4 qa hq) ?_;clear b4 hq;intro z1 z2 z3
   refine (bH z1 (kts_none r.keep z2) (λqk=>?_))
   refine kU r.ns λb b b ho b=>?_
   have uE:g.get? qa.1=none:=z2
   rw[qk,ho]at uE
   exact nj uE
  ·refine aL b9 ?_;clear b9;intro a0 qc
   exact (gJ a0 .none qc.at (.inl rfl))
 induction qf using gN.casesOn with
 |@e i qb body B hb ow=>
  refine PM j.below qd R.news j.lim hf j.frame j.kY (R.get hm) e1 hb rfl rfl lR nv (e6 v) (λy G=>by rw[ael.mp G];exact eW B.cV B.slot) (λg d u r L p T=>?_) B.co B.gen B.kind B.cell
  refine bU (ctx i B g d u (s.toks+[(D.param,v)].length) r L p T) λV M R'=>?_
  refine ow call d' qC (q g d) _ V M rfl rfl _ _ y h G _ α N _ R' (exc i g d r M) _ λav x v z C F hk f n pj=>?_
  exact leave g d f ((X i).trans n.toSts) λbW dK=>kQ _ _ _ _ _ _ hk bW dK pj
 |@s i qb body B hb ow=>
  rw[hb]at e1 e6
  refine callX_plain j.below qd R.news j.lim hf j.frame j.kY (R.get hm) e1 lR nv (λb b b b h=>agK (e6 v) h) (λy G=>by rw[ael.mp G];exact eW B.cV B.slot) (λg d u r L p T b b=>?_) B.cell B.co B.gen B.kind
  refine bU (ctx i B g d u (s.toks+[(D.param,v)].length) r L p T) ?_;clear ctx B L p T;intro V M R'
  refine ow call d' qC (q g d) _ V M rfl rfl _ _ _ y h G _ α N _ R' (exc i g d r M) _ (λx z C F hk f n=>?_) λav x v z C F hk f n pj=>?_
  ·exact leave g d f ((X i).trans n) λbW dK=>kQ _ _ _ _ _ _ hk bW dK .none
  ·exact leave g d f ((X i).trans n) λbW dK=>kQ _ _ _ _ _ _ hk bW dK pj
noncomputable def eO (T:Tab) (I:rA) (C:BH) (call:Call):Call:=λf d A k=>O.casesOn (motive_1:=λc=>Rs) f .no (λc=>.no) (λc=>.no) (λc=>.no) (λc=>.no) (λc=>.no) (λc c=>.no) (λc=>.no) (λa=>AM T I call a d A k) (λc c=>.no)
 (λf self=>aD .no (T f) λE=>jq E call (self::d) A k) (λid W=>aD .no (C id) λE=>runC E call W d A k) .no (λc=>.no)
noncomputable def jk (T:Tab) (I:rA) (C:BH) (n:Nat):Call:=afX (λc c c c=>.no) (λc d=>eO T I C d) n
theorem pW (HT:mw W T I) (z:oa W C){call:Call}(p:dv W n call):dv W (n+1) (eO T I C call):=by
 intro c A l b f B D k y h j qb α qc E R q Q vals m i r qd s;have F:=mu b.depth 1 (by decide)
 have G:=mu b.units 3 (by decide)
 induction f using O.casesOn with
 |glob a=>
  obtain rfl:Q=.ref a:=m.inv;exact Sl HT p l b h j R q i r s
 |ck f self=>
  refine Y (aR (show aD .no (T f) (λE=>jq E call (self::B) D k)=y from h) j) λS L t=>?_
  refine cJ (HT.fn _ _ L) ?_;clear HT L;intro fd M V X;refine eY (l.g.fn _ _ M) ?_;clear M;intro qual dC H;refine eI m.inv ?_;intro a qe o u Z N;subst o;refine agI (method_call (R.get u) ?_);exact vN p l b.frames F G b.handled H V X R (.cons N i) (vJ N r) t j q (λqa av bu v bG N' e w g i=>s _ _ _ _ _ _ e w g i) λe v x=>x
 |bY id aK=>
  refine Y (aR (show aD .no (C id) (λE=>runC E call aK B D k)=y from h) j) λS P t=>?_
  refine Y (z _ _ P) ?_;clear z P;intro qf hD H;refine r8 m.inv ?_;clear m;intro a qg d o u Z hd hO;subst o;have o:=aea (hD.symm.trans hd);subst d;exact agI (SV p l b.frames F G b.handled H R u hO i r t j q (λqa av bu v bG N' e w g i=>s _ _ _ _ _ _ e w g i) λe v x=>x)
 |_=>exact bO h j
theorem zO (HT:mw W T I)(a:oa W C)(n:Nat):dv W n (jk T I C n):=by
 induction n with
 |zero=>exact λc A e g f i j k y h d=>bO h d
 |succ n b=>exact pW HT a b
theorem UT(e:o.data=.func fd)(a:h.get? q=some o):FnAt q h:=by
 obtain⟨c,d,A,W⟩:=o;dsimp only at e;subst e;exact(nU _ _ _ _ a)
noncomputable def og (call:Call) (b:List Nat) (f:Ev) (args:eb):Ev:=λc k=>f c λA c=>O.casesOn (motive_1:=λd=>Rs) A .no (λd=>.no) (λd=>.no) (λd=>.no) (λd=>.no) (λd=>.no) (λd d=>.no) (λd=>.no) (λa=>aN .no (cL a b) (args c λl c=>call (.glob a) l c k)) (λd d=>.no)
 (λa self=>aN .no (cL a b) (args c λl c=>call (.ck a self) l c k)) (λid W=>args c λl c=>call (.bY id W) l c k) .no (λd=>.no)
theorem UU(H:tK W f fd a b):fnIn W.K f=true:=by
 obtain⟨d,params,A,e,g,h,i,j,k,l,m,c,_⟩:=H.at_;unfold fnIn;rw[c]
theorem Ra (t:ak c){call:Call}(u:ja c A call){pos:Pos}(v:args.any aey=false) (H:(w.all λa=>(W.G.fn a).isSome)=true) (V:aE c A (.Name x p) Z) (z:gL c A args B):
  aE c A (.Call (.Name x p) args [] pos) (og call w Z B):=by
 intro m k y h g qa α qb qc qd I qg C;refine Call_ (V m _ y h g qa α qb qc qd I _ λfv L val dk cK bZ h D s n=>?_)
 have j:=I.step s.kp;induction fv using O.casesOn with
 |glob a=>
  refine ae (aS (show aN .no (cL a w) (B L λl m=>call (.glob a) l m k)=y from h) g) ?_;clear h;intro E h
  have hk:=aeB.mp H _ (nP E);obtain rfl:val=.ref a:=n.inv;refine eL (P:=λf=>W.K.In f) v (λf X=>keeps_K (t.g.keep _ (.inl hk)) f X) ?_
  exact z _ _ y h g _ _ _ _ D j pos _ λl M N Q R S h i b o r=>⟨i.aZ,u _ _ _ _ _ h g _ _ _ _ i (j.step b.kp).l _ _ (.glob _) o r _ (C.step (s.trans b))⟩
 |ck a self=>
  refine ae (aS (show aN .no (cL a w) (B L λl m=>call (.ck a self) l m k)=y from h) g) ?_;clear h;intro E h
  have hk:=aeB.mp H _ (nP E);refine aL (ah0.mp hk) ?_;clear hk;intro fd T;refine eY (t.g.fn _ _ T) ?_;clear t T;intro qual dC qe;refine eI n.inv λq qf e F G hs=>?_
  subst e;refine eL (P:=λf=>MethP W.K q _ qf f) v (λf X=>keeps_M (UU qe) f X) ?_
  exact z _ _ y h g _ _ _ _ D j pos _ λl M N Q R S h i b o r=>⟨⟨i.get (b.ge.keep _ F G),i.aZ⟩,u _ _ _ _ _ h g _ _ _ _ i (j.step b.kp).l _ _ (n.mono b.ge) o r _ (C.step (s.trans b))⟩
 |bY id aK=>
  refine Pz n.inv λq qh d e F G hD fd hO u_=>?_
  subst e;refine eL (P:=λf=>FnAt _ f) v (λf X=>keeps_F f X) ?_
  exact z _ _ y h g _ _ _ _ D j pos _ λl M N Q R S h i b o r=>⟨UT hO (i.get (b.ge.keep _ F G)),u _ _ _ _ _ h g _ _ _ _ i (j.step b.kp).l _ _ (n.mono b.ge) o r _ (C.step (s.trans b))⟩
 |_=>exact bO h g
noncomputable def tB (K:afM) (C:aep) (name:Str) (f:aep):Bool:=
 ajm K C name&&hasDictIn K C&&(agj K (.ref C) name ==some (some (.ref f)))&&isFn K (.ref f)&&(specialIn K (.ref f) "__get__" ==some (some (.builtin "function.__get__")))&&(takesIn K (.ref f) ==some false)&&!(copiedNames.contains name)
noncomputable def vW (a:List (Nat×aep)) (name:Str) (o:Ev):Ev:=λc k=>o c λv c=>dZ .no c.st v λi o=>mi .no o λC d=>Bi .no (bw name d) (aD .no (lk C a) λf=>k (.ck f (.ref i)) c)
theorem Rb (g:ak c) (v:eH o=true) (w:(z.all λp=>tB W.K p.1 name p.2)=true) (B:aE c A o C):aE c A (.Attribute o name pos) (vW z name C):=by
 intro D qc y h b F G N E R H qd I;refine FD v (B D _ y h b F G N E R H _ λqe dj val i cK bZ h e L j=>?_)
 have key:=j;revert key;refine vt e j h b λqf qg es a qh da M n P hg hij Q hj S T k=>?_
 intro key;subst P;refine ae (Fp k b) ?_;clear k;intro l m;refine Y (aR m b) ?_;clear m b;intro f V Z;have d:=aeB.mp w _ (iA V);refine ae (ad9.mp d) ?_;clear d;intro d p7;refine ae (ad9.mp d) ?_;clear d;intro d p6;refine ae (ad9.mp d) ?_;clear d;intro d p5;refine ae (ad9.mp d) ?_;clear d;intro d p4;refine ae (ad9.mp d) ?_;clear d;intro d p3;refine ae (ad9.mp d) ?_;clear d;intro r p2;have q:=T.getL (x:=name);rw[sG]at l;rw[l]at q;refine Y e.fr λqi qa ez=>?_
 have qb:=aiO e.news (aef _ Q) (aef _ S);have X:=g.aZ.keeps qa.keep;refine ae (e.iH g (methodObj (.ref f) (.ref a)) (t:=i.toks+1)) ?_;clear g;intro cA u;refine get_bind X qb (plainGet_of r).1 (findObj_fn p2 (beq_iff_eq.mp p3) (beq_iff_eq.mp p5) (beq_iff_eq.mp p6) ((aeK _).mp p7) (by show lookIn name (dictOf M n)=_;rw[lookIn_dict,q])) (plainGet_of r).2 (agI (fn_get (s:={i with toks:=i.toks+1}) X (beq_iff_eq.mp p4) (handed_on rfl ?_)))
 exact I _ _ _ _ _ _ Z cA (L.trans u) (.ck (.head _) e.away (key.mono u.ge))
theorem SR.Ww (R:SR c σ s α N) (g:α[i]?=some a) (l:(a,b)∈N) (m:OR W α N i b ao') (n:i∉σ.mark):SR c (σ.put i ao') s α N/\bh σ α N (σ.put i ao') α N:=by
 have hi:=R.lt g;refine⟨⟨R.fr,R.aK,R.news,R.nodup,R.inj,λj k A e=>?_,R.all,R.hi,R.wf.set,R.bD,R.len,aev iz R.low,R.bt,R.gens,R.os,R.aZ⟩,⟨⟨.refl,iz,λj A=>?_,aeu _,rfl,λd d d d d h d=>h,λj A=>⟨?_,λd d d h=>h⟩⟩,rfl⟩⟩
 ·have f:j<σ.n:=A;rw[kN R hi f]at e;by_cases q:j=i
  ·rw[if_pos q]at e;have o:=aea e;clear e;subst k;subst q;exact (bB a b g l m)
  ·rw[if_neg q]at e;exact R.obj j k f e
 ·have f:j<i:=aej A i9;rw[kN R hi (agk f hi),if_neg (aeE f)]
 ·rw[kN R hi (R.bt j A),if_neg (λe:j=i=>n (e▸A))]
theorem Pc{pos:Pos}{g:Pos}{f c':aec}(l:List aec)(h:aiY l)(e:ahv pos (l++[ae6 g.line,ae6 g.col,c'])=some f):ahv pos l=some f\/f=c':=by
 fun_induction aiY l with
 |d=>
  simp only[List.nil_append,ahv,ae6]at e;split at e
  ·have A:=aea e;clear e;subst c';exact .inr rfl
  ·exact aT e
 |W a t b u x i c=>
  simp only[ag4,ahv]at e ⊢;split at e
  ·rename_i q;rw[if_pos q];exact .inl e
  ·rename_i q;rw[if_neg q];exact c h e
 |j l k m=>exact h.elim
noncomputable def oX (v:aec):Nat:=aff (motive:=λc=>Nat) v 0 0 0 (λc=>1) (λc c=>2) (λc c=>0) (λc c=>3) (λc c=>0) (λc=>0) (λc=>0) (λc=>0)
theorem Rd (h:aem (oX v) 1=true):∃ b,v=.bool b:=by induction v using aff with
 |bool b=>exact⟨b,rfl⟩
 |_=>exact aX h
theorem E5 (h:aem (oX v) 2=true):∃ i t,v=.int i t:=by induction v using aff with
 |int i t=>exact⟨i,t,rfl⟩
 |_=>exact aX h
theorem SW (h:aem (oX v) 3=true):∃ x t,v=.str x t:=by induction v using aff with
 |str x t=>exact⟨x,t,rfl⟩
 |_=>exact aX h
noncomputable def E6(d:Data)(f:Array aec->Bool):Bool:=match d with
 |.fields c=>f c
 |_=>false
theorem PN{d:Data}{f:Array aec->Bool}(h:E6 d f=true):∃ vs,d=.fields vs/\f vs=true:=by induction d using ah1 with
 |fields vs=>exact⟨vs,rfl,h⟩
 |_=>exact aX h
noncomputable def jt (K:afM) (a P:aep):Bool:=aD false (K.lookup a) λo=>E6 o.data λc=>o.cls ==.type "code" &&(c[11]? ==some (.ref P)&&(aem (oX (c.getD 18 .none)) 3&&(aem (oX (c.getD 7 .none)) 2&&(aem (oX (c.getD 9 .none)) 1&&(aem (oX (c.getD 10 .none)) 2&&!(a ==P))))))
theorem FZ{K:afM}{a P:aep}(X:K.In h) (e:jt K a P=true):CodeHd h a P:=by
 refine Y (aR e nofun) ?_;clear e;intro o q e;refine Y (PN e) ?_;clear e;intro i j e;refine ae (ad9.mp e) ?_;clear e;intro k e;refine ae (ad9.mp e) ?_;clear e;intro c e;refine ae (ad9.mp e) ?_;clear e;intro d e;refine ae (ad9.mp e) ?_;clear e;intro A e;refine ae (ad9.mp e) ?_;clear e;intro W e;refine ae (ad9.mp e) ?_;clear e;intro g l;refine eY (SW d) ?_;clear d;intro f m n;refine eY (E5 A) ?_;clear A;intro p r s;refine aL (Rd W) ?_;clear W;intro b t;refine eY (E5 g) ?_;clear g;intro u v w;have c:=beq_iff_eq.mp c;exact (OT o i f m p r b u v (X _ _ q) (beq_iff_eq.mp k) j c (by rw[Array.getD_eq_getD_getElem?,c];rfl) n s t w (beq_eq_false_iff_ne.mp ((aeK _).mp l)))
noncomputable def GF (v:Option (Option aec))(f:aep->Bool):Bool:=match v with
 |some (some (.ref a))=>f a
 |_=>false
theorem Rg{f:aep->Bool}(h:GF v f=true):∃ a,v=some (some (.ref a))/\f a=true:=by
 induction v using aer with
 |none=>exact aX h
 |some v=>induction v using aer with
  |none=>exact aX h
  |some v=>induction v using aff with
   |ref a=>exact⟨a,rfl,h⟩
   |_=>exact aX h
noncomputable def E7(d:Data):Bool:=match d with
 |.plain=>true
 |_=>false
theorem PO{d:Data}(h:E7 d=true):d=.plain:=by induction d using ah1 with
 |plain=>rfl
 |_=>exact aX h
noncomputable def ke (K:afM):Bool:=GF (nsIn K ae1 "__builtins__") λc=>!(c ==agG)&&(!(c ==ae1)&&aD false (K.lookup c) λo=>E7 o.data&&(o.cls ==.type "module" &&o.dict ==some agG))
theorem UW{K:afM}{a:Str->Option aec}{b}(X:K.In h) (G:h.Ns ae1 a) (f:h.get? P=some (afe b)) (e:ke K=true):h.BuiltinsAt a P:=by
 refine Y (Rg e) ?_;clear e;intro A q e;refine ae (ad9.mp e) ?_;clear e;intro W e;refine ae (ad9.mp e) ?_;clear e;intro g e;refine Y (aR e nofun) ?_;clear e;intro o i e;refine ae (ad9.mp e) ?_;clear e;intro c e;refine ae (ad9.mp e) ?_;clear e;intro j k;have c:=PO c;have d:=X _ _ i;refine (PB A o (mg_of X G q) (beq_eq_false_iff_ne.mp ((aeK _).mp W)) (beq_eq_false_iff_ne.mp ((aeK _).mp g)) (λz=>?_) d (beq_iff_eq.mp j) (beq_iff_eq.mp k) c)
 rw[z,f]at d;rw[←aea d]at c;contradiction
theorem SR.made {σ:LS} {s:aeg} {α N} (R:SR c σ s α N) (C:ak c) {g:Nat} {pos:Pos} {c':aep} {h':afd} {fo:Obj} {tk:Nat} (X:σ.st.get g=some (.tab P l)) (m:α[g]?=some P) (D:(P,afe r)∈N) (jz:OR W α N g (afe r) (.tab P l)) (M:g∉σ.mark)
  (Q:aiW P s.heap h') (v:s.heap.objs.size<=c') (j:c'<h'.objs.size) (Z:h'.CodeRec (.ref c') l) (pq:h'.get? P=some (afe (r++#[ae6 pos.line,ae6 pos.col,.ref c']))) (hf:fo.isFreed=false):
  ∃ E,SR c σ {s with heap:=h'.push fo,toks:=tk} α E/\bh σ α N σ α E/\(h'.objs.size,fo)∈E/\h'.objs.size∉α/\i7 α E (.ref c') l:=by
 refine Y R.fr λqa F w=>?_
 have z:=R.news _ (aef _ D)
 have hLs:c.L<s.heap.objs.size:=F.ns.lt
 have hi:=R.lt m
 have xE:∀ x,σ.st.get (g+1)=some x->g+1<σ.n->(∃ qb es,x=.obj qb es)->False:=by
  intro x Q j he
  refine eY he ?_;clear he;intro qb es bj;subst bj
  refine aH (R.obj _ _ j Q) λa' b' q1 q2 q3=>?_
  refine ir q3.inv ?_;clear q3;intro qe da Cv qa n e4 h5 h6 n
  obtain rfl:=afR e4
  obtain rfl:=aea (m.symm.trans h5)
  exact nomatch congrArg Obj.data (R.uniq D h6)
 refine pO Z ?_;clear Z;intro c₂ y vs t e2 CU hd hv
 cases e2
 refine cJ (R.mod C (ao':=.any) (o':=afe (r++#[ae6 pos.line,ae6 pos.col,.ref c'])) m D M (λn n=>⟨_,rfl⟩) xE) ?_;clear xE;intro k u hY K
 have S:∀ b A,b≠P->s.heap.get? b=some A->(h'.push fo).get? b=some A:=λb A B e=>aeh _ (Q b A B e)
 have BI:Fr c.h₀ c.L (h'.push fo) qa:=⟨F.ns.at' λA e=>S _ A z.2.1.symm e,λb A e=>S b A (λq=>by rw[q]at e;rw[z.2.2]at e;exact aT e) (F.keep b A e),F.above⟩
 have fresh:∀ b,c.L<b->c.h₀.get? b=none:=λb B=>aiE (aev F.above (agM B))
 have UX:agD c.h₀ c.L (h'.push fo) (k++c.ax):=by
  intro p d
  rcases u.mem p d with rfl|⟨d,hn⟩
  ·exact ⟨aeh _ pq,z.2⟩
  ·have q:=R.news p d
   exact ⟨S _ _ hn q.1,q.2⟩
 have G:=K (t:=tk) w BI UX .any
 have T:∀ p∈k++c.ax,p.1<s.heap.objs.size:=λp d=>by
  rcases u.mem p d with rfl|⟨d,_⟩
  ·exact aeJ z.1
  ·exact aeJ (R.news p d).1
 have H:c.L<c':=aej hLs v
 refine Y G.fr λm₁ Hw wL=>?_
 refine ae (G.vB C (a:=c') (o:=y) (t:=tk) wL Hw (λp d=>by
  rcases aeq.mp d with rfl|d
  ·exact (bH (aeh _ CU) (agl H) (fresh _ H))
  ·exact G.news p d) (λq=>by
  obtain ⟨p,d,e⟩:=aeG.mp q
  exact absurd (e▸T p d) (afk.mpr v)) H) ?_;clear G wL Hw CU;intro I mX
 refine Y I.fr λm₂ Hx oq=>?_
 have L:c.L<h'.objs.size:=agk H j
 refine ae (I.vB C (a:=h'.objs.size) (o:=fo) (t:=tk) oq Hx (λp d=>by
  rcases aeq.mp d with rfl|d
  ·exact (bH (aeA _ hf) (agl L) (fresh _ L))
  ·exact I.news p d) (λq=>by
  obtain ⟨p,d,e⟩:=aeG.mp q
  rcases aeq.mp d with rfl|d
  ·exact aeE j e
  ·exact absurd (e▸T p d) (afk.mpr (aev v (agM j)))) L) ?_;clear I C oq Hx hf L fresh T;intro bW dK
 have NL:∀ b,s.heap.objs.size<=b->b∉α:=λb B q=>by
  refine Y (aeG.mp (R.all b q)) λp d e=>?_
  exact absurd (e▸aeJ (R.news p (aef _ d)).1) (afk.mpr B)
 have nD:i7 α ((h'.objs.size,fo)::(c',y)::k) (.ref c') l:=(ze c' y vs t rfl (.tail _ (.head _)) (NL _ v) hd hv)
 have qc:=hY.trans (mX.trans dK)
 have GG:∀ {p:aep×Obj},p∈k++c.ax->p.1∈N.map (·.1)->p∈k:=λq qd=>(aeH.mp q).elim id λq=>absurd (aew (f:=λp:aep×Obj=>p.1) q) (R.Bl qd)
 have Hy:(P,afe (r++#[ae6 pos.line,ae6 pos.col,.ref c']))∈k:=GG u.new (show P∈N.map (·.1) from aew (f:=λp:aep×Obj=>p.1) D)
 cases jz with
 |tab ad0 ht tC=>
  have LP:OR W α ((h'.objs.size,fo)::(c',y)::k) g (afe (r++#[ae6 pos.line,ae6 pos.col,.ref c'])) (.tab P l):=by
   refine .tab m (by rw[Array.toList_append];exact TriplesOk_snoc _ _ _ _ ht) λpos' cv e=>?_
   rw[Array.toList_append]at e
   rcases Pc _ ht e with e|rfl
   ·exact (tC pos' cv e).mono qc.ge
   ·exact nD
  refine ae (bW.Ww m (.tail _ (.tail _ Hy)) LP M) ?_;clear Hy LP;intro h eQ
  have oH:∀ p∈N,p.1≠P->p∈k:=λp d eS=>GG (u.oH p (aef _ d) eS) (aew d)
  have Rσ:SR c σ {s with heap:=h'.push fo,toks:=tk} α ((h'.objs.size,fo)::(c',y)::k):=by
   refine ⟨h.fr,h.aK,h.news,h.nodup,h.inj,λi A j e=>?_,h.all,h.hi,R.wf,R.bD,R.len,R.low,R.bt,h.gens,h.os,h.aZ⟩
   refine h.obj i A j ?_
   have e':((σ.put g .any).put g (.tab P l)).st.get i=if i=g then some (.tab P l) else (σ.put g .any).st.get i:=kN bW hi j
   rw[e']
   by_cases q:i=g
   ·rw[if_pos q];rw[q,X]at e;exact e
   ·rw[if_neg q,kN R hi j,if_neg q];exact e
  refine (Ug _ Rσ ⟨⟨(qc.trans eQ).ge,aeu _,λn n=>rfl,aeu _,rfl,λi a A n V w nt=>?_,λi hi=>⟨rfl,λa A V w=>?_⟩⟩,rfl⟩ (.head _) (NL _ (aev v (agM j))) nD)
  ·exact .tail _ (.tail _ (oH _ w λq=>nt _ rfl (by subst P;rw[hH R V m];exact X)))
  ·exact .tail _ (.tail _ (oH _ w λq=>M (by subst P;rw[←hH R V m];exact hi)))
theorem Pq (b:oP sc c.scope m) (R:SR c σ s α N) (h:qI σ.aK m=some o) (e:(sc.names.map (·.1)).Nodup): ajh sc c.env=pure (gQ c.env.cells sc.names [])/\gj sc α o (gQ c.env.cells sc.names []):=by
 have q:=zd (c:=c) (M:=c.ax) b R h e;refine⟨DP q.1,λj i d=>?_⟩
 refine ae (EY h) ?_;clear h;intro y A;refine Y (A j i d) ?_;clear A d;intro n W f;refine be (b.mem _ W) ?_;clear b W;intro x k g p;refine cg (R.aK _ _ f) ?_;clear R f;intro r t a u v w;have l:c.scope.names[n]?=some (r,t):=u;rw [p]at l;cases l;exact (dx x _ a g ((D3 e λz=>rfl).1 a v (aeM g)) w)
noncomputable def mH (a P:Nat) (b:Str) (id:Nat) (e:List (Nat×Nat)):Ev:=λc k=>aD .no (qI c.aK e) λd=>aD .no (c.st.get a) λo=>Gj .no o λA q=>aN .no (and (afl a c.n) (and (aem P A) (seq b q))) (rx .no (cL a c.mark) (k (.bY id d) c))
theorem make_core (n:ak c) {L id:Nat} (Cz:oP sc c.scope rm) (cV:(sc.names.map (·.1)).Nodup) (tC:∃ a,c.env.code=.ref a/\jt W.K a P=true) (hbm:ke W.K=true)
  (M:W.kt.bY id=some ⟨x,S,sc⟩) (R:SR c σ s α N) {y:Rs} (h:mH L P u id rm σ k=y) (i:y≠.no) {E:aec->aeg->Prop} {Q:aec->aeg->Prop} (T:fZ c y σ α N k Q)
  (new:∀ f g j,ajh sc c.env=pure j->s.heap.Ns ae1 g->(∀ a,c.env.code=.ref a->CodeHd s.heap a P)->s.heap.get? P=some (afe f)->aiY f.toList->ahv pos f.toList=none->ae1≠P->s.heap.BuiltinsAt g P->
   (∀ (c':aep) (fo:Obj) (fd:ahx) (h':afd) (tk:Nat),aiW P s.heap h'->s.heap.objs.size<=c'->c'<h'.objs.size->h'.CodeRec (.ref c') u->h'.get? P=some (afe (f++#[ae6 pos.line,ae6 pos.col,.ref c']))->fo={cls:=.type "function",data:=.func fd}->fd.body=S->fd.scope=sc->fd.globals=ae1->fd.builtins=agG->(∀ v,agC fd ⟨[v],[]⟩=pure [(x,v)])->fd.code=.ref c'->fd.qualname=u->fd.closure=j->Q (.ref h'.objs.size) {s with heap:=h'.push fo,toks:=tk})->WP W A V Q E s)
  (hit:∀ f g j p,ajh sc c.env=pure j->s.heap.Ns ae1 g->(∀ a,c.env.code=.ref a->CodeHd s.heap a P)->s.heap.get? P=some (afe f)->aiY f.toList->ahv pos f.toList=some p->s.heap.BuiltinsAt g P->
   (∀ (fo:Obj) (fd:ahx) (h':afd) (tk:Nat),(∀ b o,s.heap.get? b=some o->h'.get? b=some o)->s.heap.objs.size<=h'.objs.size->fo={cls:=.type "function",data:=.func fd}->fd.body=S->fd.scope=sc->fd.globals=ae1->fd.builtins=agG->(∀ v,agC fd ⟨[v],[]⟩=pure [(x,v)])->fd.code=p->fd.qualname=u->fd.closure=j->Q (.ref h'.objs.size) {s with heap:=h'.push fo,toks:=tk})->WP W A V Q E s):
  WP W A V Q E s:=by
 refine Y (aR h i) λaK BF h1=>?_
 refine Y (aR h1 i) λo X Z=>?_
 refine be (QD Z i) ?_;clear Z;intro P' qe d h3;subst d
 refine ae (aS h3 i) λw h4=>?_
 refine ae (sE h4 i) λuB h5=>?_
 refine ae (ad9.mp w) λhq0 w=>?_
 refine ae (ad9.mp w) λhq1 hq2=>?_
 obtain rfl:=aed hq1
 obtain rfl:=gG.mp hq2
 have abA:L<σ.n:=aei hq0
 refine aH (R.obj _ _ abA X) λqa b lS hN jz=>?_
 refine j0 jz.inv ?_;intro f d z ht lR;subst d
 have d:=aea (lS.symm.trans z);subst qa
 have h:=h5
 refine ae (Pq (c:=c) Cz R BF cV) λkq Hz=>?_
 refine Y R.fr λqf qb hm=>?_
 refine gH n.top λqg loose g mb qc=>?_
 have G:=qc.g.keeps qb.keep
 have q:=R.get hN
 have hG:ae1≠P:=λqd=>by
  refine cg G λo es ep e hd u_=>?_
  rw [qd,q]at e;have d:=aea e;clear e;subst o;contradiction
 have NM:∀ a,c.env.code=.ref a->CodeHd s.heap a P:=λa e=>by
  refine Y tC λcc' l m=>?_
  rw [l]at e;cases e
  exact FZ R.aZ m
 have hB:=UW R.aZ G q hbm
 induction e:ahv pos f.toList using aer with
 |none=>
  refine new f g _ kq G NM q ht e hG hB λc' fo fd h' tk hx f5 bN abB pq r l m B C D F H I=>?_
  refine Ud (R.made (fo:=fo) (pos:=pos) n X lS hN jz (iy uB) hx f5 bN abB pq (by rw [r];rfl) (tk:=tk)) λN' R' g' ez z nD=>?_
  refine T _ _ _ _ _ _ h R' g' (.bY ez z M (rZ fd (by rw [r]) l m B C D (by rw [F,H];exact nD) (by rw [I];exact Hz.mono g'.ge)))
 |some p=>
  refine hit f g _ p kq G NM q ht e hB λfo fd h' tk hk ec r l m B C D F H I=>?_
  have dn:=R.ext n (t:=tk) hk
  subst r
  refine ae (dn.iH n {cls:=.type "function",data:=.func fd} rfl (t:=tk)) λcA mX=>?_
  exact T _ _ _ _ _ _ h cA mX (.bY (.head _) dn.away M (rZ fd rfl l m B C D (by rw [F,H];exact (lR _ _ e).mono mX.ge) (by rw [I];exact Hz)))
theorem UY (a:ak c){s id:Nat}{pos:Pos}(t:oP sc c.scope u) (w:(sc.names.map (·.1)).Nodup) (n:∃ b,c.env.code=.ref b/\jt W.K b P=true) (o:(c.env.qual++"<lambda>" :Str)=y) (z:ke W.K=true)
  (B:W.kt.bY id=some ⟨x,.expr body,sc⟩) (BJ:defaultsOf params c.env=([],[])) (p:∀ name C D E F G v,agC (kla_fn name C params body sc D E F G) ⟨[v],[]⟩=pure [(x,v)]):
  aE c A (.Lambda params body sc pos) (mH s P y id u):=by
 intro σ qa qb h H qc α qd qe R hE qf I
 have q:=n
 refine Y q ?_;clear q;intro b d u_
 refine kla_eval BJ ?_
 refine make_core (pos:=pos) a t w n z B R h H I (λL M N e f g i j Q S k K=>?_) (λL M N cv e f g i j T k K=>?_)
 ·refine kla_makeFunction e a.iE f d (g _ d) i j Q S k λV X l m Z f5 bN r pq=>?_
  rw [o]at r ⊢
  exact K V _ _ l m Z f5 bN r pq rfl rfl rfl rfl rfl (p _ _ _ _ _ _) rfl rfl rfl
 ·refine kla_makeFunctionHit e a.iE f d (g _ d) i j T k λX l m hk ec=>?_
  rw [o]
  exact K _ _ l m hk ec rfl rfl rfl rfl rfl (p _ _ _ _ _ _) rfl rfl rfl
noncomputable def tY (a P:Nat)(b:Str)(id:Nat)(e:List (Nat×Nat))(f:Tg):Sc:=λc kn d=>mH a P b id e c λv c=>f v c kn
theorem UZ (a:ak c){C id:Nat}{b:Tg}(D:oP sc c.scope E) (F:(sc.names.map (·.1)).Nodup) (r:∃ e,c.env.code=.ref e/\jt W.K e P=true) (s:qualnameIn c.env name name=G) (H:ke W.K=true)
  (I:W.kt.bY id=some ⟨x,.stmts body,sc⟩) (L:params.defaults=[]) (jA:params.kw_defaults=[]) (M:annTrees params none c.env=[]) (t:∀ name Q R f S T V v,agC (fnX name Q params body sc R .none .none f S none T V) ⟨[v],[]⟩=pure [(x,v)]) (X:qZ c A name b):
  bQ c A (.FunctionDef name params body [] none [] sc none name pos) (tY C P G id E b):=by
 intro i kn kr y h u qd Z N qa qb hE qc cW cX
 have w:=r
 refine Y w ?_;clear w;intro e d u_
 refine nestDef_K L jA M ?_
 have hQ:fZ c y i Z N (λv i=>b v i kn) (λv z=>WP W A (storeName c.env name v) (λu_ rH=>qc .next rH) qa z):=λqe bu v z bG N' hk R' g hv=>
  X _ _ _ _ hk u _ _ _ _ _ R' (hE.step g.kp) hv _ λk8 dU ji fY hk bW dK=>cW _ _ _ _ hk bW (g.toSts.trans dK)
 refine make_core (pos:=pos) a D F r H I qb h u hQ (λps mg abC j k l m n CV hgP o K=>?_) (λps mg abC cv j k l m n hf o K=>?_)
 ·refine makeFunction_K j a.iE k d (l _ d) m n CV hgP o λc' ctv f p q hx f5 bN B pq=>?_
  rw [s] at B ⊢
  exact K c' _ _ p q hx f5 bN B pq rfl rfl rfl rfl rfl (t _ _ _ _ _ _ _) rfl rfl rfl
 ·refine makeFunction_hit j a.iE k d (l _ d) m n hf o λctv f p q hk ec=>?_
  rw [s]
  exact K _ _ p q hk ec rfl rfl rfl rfl rfl (t _ _ _ _ _ _ _) rfl rfl rfl
noncomputable def tZ (c:Cx W) (A:aeX) (m:List (Option aeD)) (vals:List aeD) (h:List Str) (n:eb):Prop:=∀ d k y,n d k=y->y≠.no->∀ s a N E (o:Pos),SR c d s a N->bS c y d a N E->∀ Q:List (aec×aec)->aeg->Prop,
 (∀ l b i j e f g,k l b=y->SR c b j e f->bh d a N b e f->aU W.kt e f g (h.zip l)->g.map (·.1)=h->Carries (ae2 W.prog W.w) i g->Q i j)->WP W A (evalPairs (pairTrees m vals c.env o)) Q E s
theorem Yq:tZ c A [] [] [] aI:=λW k y h a s b N E e R f Q d=>evalPairs_nil (d _ _ _ _ _ _ [] h R .refl .nil rfl trivial)
theorem Wx (hk:aE c A n (λσ k=>k (.str x) σ)) (o:aE c A p b) (r:tZ c A u vs v e):tZ c A (some n::u) (p::vs) (x::v) (bg b e):=by
 intro σ k y h d s w N E z R f qa B;refine evalPairs_cons (hk σ (λa σ=>haveI:=ahc (a=.str x);if a=.str x then bg b e σ k else .no) y ((if_pos rfl).trans h) d s w N E R f _ λa C kv D F G h H g i=>?_)
 have I:a=.str x:=by
  refine ajj λq=>?_
  dsimp only at h;rw[if_neg q]at h;exact bO h d
 subst I;dsimp only at h;rw[if_pos rfl]at h;refine Y i.inv ?_;clear i;intro t L nB;subst L
 ·have j:=f.step g.kp;refine aeb (o C _ y h d D F G E H j _ λqb M P Q S T h V l X=>?_)
  refine aeb (ahF (aeo ?_));refine r M _ y h d Q S T E z V (j.step l.kp) _ λqc k8 vs dU ji fY Z h bW m hb hks BK=>?_
  exact B _ _ _ _ _ _ ((x,P)::Z) h bW (g.trans (l.trans m)) (.cons (X.mono m.ge) hb) (by rw[aeL,hks]) (bH (agY W.prog W.w x t) rfl BK)
noncomputable def LQ(l:List Str):Bool:=decide l.Nodup
noncomputable def hV (a:List Str) (b:eb):Ev:=λc k=>b c λl c=>aN .no c.room (k (.ref c.n) (c.push (.dict (a.zip l))))
theorem SX (e:ak c) (B:c.comp=none) (C:a.all (·.isSome)=true) (D:a.length=vals.length) (F:a≠[]) (G:a.length<=15) (H:LQ g=true)
  (I:∀ M,(∀ p∈c.ax,p∈M)->tZ (c.with M) A a vals g L):aE c A (.Dict a vals pos) (hV g L):=by
 intro m qc y h i s n N E R P qd Q;refine wpAny_Dict_walk (knd:=ae2 W.prog W.w) C D F G ?_;have S:SR (c.with ([(s.heap.objs.size,({cls:=.type "dict",data:=.dict #[]}:Obj))]++c.ax)) m {s with heap:=s.heap.push {cls:=.type "dict",data:=.dict #[]},toks:=s.toks} n N:=R.own e (λb o q=>aeh _ q) (λp d=>by
  rw [ael.mp d];exact⟨aeA _ rfl,aeu _⟩) (ae5 _ _)
 have r:∀ p∈c.ax,p∈[(s.heap.objs.size,({cls:=.type "dict",data:=.dict #[]}:Obj))]++c.ax:=λp d=>aek _ d
 refine I _ r m _ y h i _ n N E pos S (P.with B r) _ λl dj T u cK bZ V h v X f Z BK=>?_
 refine ae (aS h i) ?_;clear h i;intro w h;have hD:=(v.news (s.heap.objs.size,({cls:=.type "dict",data:=.dict #[]}:Obj)) (aek _ (.head _))).1;have Wy:u.heap.DictOf (ae2 W.prog W.w) s.heap.objs.size []:=by
  refine Y (af3.mp (ajC (knd:=ae2 W.prog W.w) s.heap)) λo j hd=>?_
  rw [aeA _ rfl]at j;have bj:=aea j;clear j;subst o;exact af3.mpr (ay _ hD hd)
 refine (dI V BK Wy (λh' k uO=>?_))
 ·rw [merged_nil_of_nodup _ (by rw [Z];exact of_decide_eq_true H)]at k
  refine Y (af3.mp k) ?_;clear k;intro o' jD x;have z:=v.jh e (own':=[(s.heap.objs.size,o')]) (h':=h') (t:=u.toks+T.length) rfl (λb o f q=>(uO.2 b λqa=>f (by rw [qa];exact .head _)).trans q) (λp d=>by rw [ael.mp d];exact jD)
  refine ae (SR.adopt (ao:=.dict (g.zip l)) e w z λqb=>.dict x (f.mono qb.ge)) ?_;clear e w x f;intro lA eQ
  exact Q _ _ _ _ _ _ h lA (X.trans eQ) (.ref (kD z.len))
noncomputable def er:Ev:=λc k=>aN .no c.room (k (.ref c.n) (c.push (.dict [])))
theorem Rh (a:ak c):aE c A (.Dict [] [] pos) er:=by
 intro m k y h b s n N E R p Q i;refine ae (aS h b) ?_;clear h b;intro e h;refine wpAny_Dict_empty ?_;have f:Obj.IsDictOf (ae2 W.prog W.w) ({cls:=.type "dict",data:=.dict #[]}:Obj) []:=by
  refine Y (af3.mp (ajC (knd:=ae2 W.prog W.w) s.heap)) λo d j=>?_
  rw [aeA _ rfl] at d;have q:=aea d;clear d;subst o;exact j
 refine ae (R.pushS a e (ao:=.dict []) ({cls:=.type "dict",data:=.dict #[]}:Obj) rfl (t:=s.toks) λg=>.dict f .nil) ?_;clear a e f;intro l g
 exact i _ _ _ _ _ _ h l g (.ref (kD R.len))
theorem PQ{r:List (Str×aec)}:stored ((y,w)::r) x v=if y=x then (y,v)::r.map (λkv=>if kv.1=x then (kv.1,v) else kv) else (y,w)::stored r x v:=by
 unfold stored;by_cases e:y=x
 ·subst e;simp
 ·simp only[afr,e,decide_false,ajL,if_false,aeL];split<;>simp
theorem U0{r:List (Str×aec)}(h:x∉r.map (·.1)):r.map (λkv=>if kv.1=x then (kv.1,v)else kv)=r:=by
 induction r with
 |nil=>rfl
 |cons p r c=> rw[aeL,aeq,not_or]at h;rw[aeL,c h.2,if_neg λe=>h.1 e.symm]
theorem aU.put (f:VR T α N v a){b:List (Str×O)}:∀ {kvs:List (Str×aec)},aU T α N kvs b->(kvs.map (·.1)).Nodup->aU T α N (stored kvs x v) (jo x a b):=by
 induction b with
 |nil=>intro kvs h _;rw[h.nil_inv];exact .cons f .nil
 |cons p b A=>
  intro kvs h c;refine aH (aU.cj (x:=p.1) (av:=p.2) h) ?_;clear h;intro w r W g d;subst W;have c:=aeU.mp c;rw[PQ,show jo x a (p::b)=_ from zl];by_cases e:p.1=x
  ·rw[if_pos e,if_pos e.symm,U0 (e▸c.1)];exact .cons f d
  ·rw[if_neg e,if_neg λq=>e q.symm]
   exact .cons g (A d c.2)
noncomputable def vX (o:Option AO):Bool:=aeT true (λo=>mi true o λc c=>false) o
theorem zu (a o i:aeD) (b:Pos) (l:Nat) (env:Env):ain a (some (.Subscript o i b)) l env=pure false:=by induction a using afB<;>rfl
noncomputable def bX (e o i:Ev):Sc:=λc kn a=>e c λv c=>o c λA c=>i c λW c=>dZ .no c.st A λp o=>ix .no o λd=>afD .no W λx=>aN .no (and (and (M9 d) (vX (c.st.get (afb p)))) (not (cL p c.mark))) (kn (c.put p (.dict (jo x v d))))
theorem U1 (C:ak c) (l:aE c A e ce) (ho:aE c A o co) (hi:aE c A i ci):bQ c A (.Assign [.Subscript o i p'] e p) (bX ce co ci):=by
 intro σ kn kr y h a qb α qc E qd r qh cW cX;refine aii ?_ (zu _ _ _ _ _ _);refine l σ _ y h a qb α qc E qd r _ λqe dj val dk cK bZ h dn D F=>?_
 have G:=r.step D.kp;refine ho dj _ y h a dk cK bZ E dn G _ λov σ₂ abD d0 eh dJ h cA s CW=>?_
 have tD:=G.step s.kp;refine hi σ₂ _ y h a d0 eh dJ E cA tD _ λiv u abE H ji fY h m v hiv=>?_
 refine l9 m (CW.mono v.ge) h a λq qf b o d I w hg L h=>?_
 refine Y (l5 h a) ?_;clear h hg r cX;intro f g h;subst g;refine Y L.inv ?_;clear L;intro M j B;refine gE hiv h a λx t d nB h=>?_
 refine ae (aS h a) ?_;clear h a;intro N h;refine ae (ad9.mp N) ?_;clear N;intro P Q;refine ae (ad9.mp P) ?_;clear P;intro abF n;have hlen:f.length<=500:=i4 abF;have R:(M.map (·.1)).Nodup:=by refine kI j ?_;clear j;intro d d d d d d h;exact h
 have hD:H.heap.DictOf (ae2 W.prog W.w) qf M:=af3.mpr (ay b (m.get w) j);refine wpAny_setItem_pairs (knd:=ae2 W.prog W.w) (k:=x) (agY W.prog W.w x t) hD (λh' S T=>?_) (by rw [B.len0];exact aev hlen (by decide))
 refine Y (af3.mp S) ?_;clear S;intro o' V X;have Z:∀ z,u.st.get (q+1)=some z->q+1<u.n->(∃ qa f,z=.obj qa f)->False:=by intro z hz _ l;refine eY l ?_;clear l;intro qa f g;subst g;have n:vX (u.st.get (q+1))=true:=n;rw [hz] at n;exact aX n
 have wM:∀ ps,b=afe ps->∃ pd,o'=afe pd:=λps e=>by subst e;refine be j ?_;clear j;intro d d g d;obtain⟨hx,_⟩:=g;contradiction
 refine Y (m.qF (ao':=.dict (jo x qe f)) (t:=H.toks+1) C ((aeK _).mp Q) I w Z T V (λN' qg=>.dict X ((aU.put ((F.mono (s.trans v).ge)) B R).mono qg)) wM) ?_;clear m C Q I w Z T V X F B R wM;intro N' lA eQ
 exact cW _ _ _ _ h lA (D.trans (s.trans (v.trans eQ))).toSts
end
section
section
variable{prog:ae0}{w:afh}{A:aeX}{E:aec->aeg->Prop}{s:aeg}
theorem F0:ahD (.type "dict_values") "__contains__" =pure none:=by rw[agS,af5];kernel_rfl
theorem SY:entryFor table "proto.contains_iter" =some Builtin.«proto.contains_iter»:=ajt (by kernel_rfl)
theorem Ql {Q:aec->aeg->Prop}(d:A.handled=none) (a:s.heap.IsValuesView v dd) (c:s.heap.DictAt (ae2 prog w) dd [] ep) (h:∀ h',(∀ b o,s.heap.get? b=some o->h'.get? b=some o)->Q (.bool false) {s with heap:=h'}):aeF (aeI prog w) A (ahw .In x (.ref v)) Q E s:=by
 show aeF _ _ (do return .bool (←contains (.ref v) x)) Q E s
 refine aeb ?_
 unfold contains
 try with_reducible refine afO ?_
 refine aeb (ahQ a.typeIs F0 ?_)
 show aeF _ _ (if ((none:Option aec) ==some agc)=true then _ else _) _ E s
 rw [if_neg (by decide)]
 refine aeb (m:=callSpecialUnlessNone? _ _ _ _) ?_
 unfold callSpecialUnlessNone?
 refine aeb (ahQ a.typeIs F0 ?_)
 refine aeo ?_
 dsimp only
 refine aeb (ahj ?_)
 refine aeb (wpAny_tryCatch (wpAny_pyIter_values a c ?_))
 have f:(s.heap.push {cls:=.type "dict_valueiterator",data:=.fields #[.ref dd,.int 0 0,.int (([]:List (Str×aec)).length) 0,.int ep 0]}).IsValIter s.heap.objs.size dd 0 ([]:List (Str×aec)).length ep:=(dI _ (aeA _ rfl) rfl rfl)
 have g:(s.heap.push {cls:=.type "dict_valueiterator",data:=.fields #[.ref dd,.int 0 0,.int (([]:List (Str×aec)).length) 0,.int ep 0]}).DictAt (ae2 prog w) dd [] ep:=c.at' λo e=>aeh _ e
 refine aeb (wpAny_runValue (aiB SY ?_))
 unfold Builtin.«proto.contains_iter»
 dsimp only
 refine aeb (wpAny_pyNext_values_end (kvs:=([]:List (Str×aec))) (knd:=ae2 prog w) d f g rfl λh' i=>?_)
 dsimp only
 refine aeb (ahj ?_)
 refine aeo ?_
 refine aeo (aeo (h h' λb o e=>i b o (aeE (aeJ e)) (aeh _ e)))
end
variable{W:Wd}{c:Cx W}{A:aeX}{d:Nat}
noncomputable def j7{a b:Type}(z:a) (l:List b) (x:a):a:=aeC x (λc c c=>z) l
theorem kK{a b:Type}{z y₀ x:a}{l:List b}(h:j7 z l x=y₀)(e:y₀≠z):l=[]/\x=y₀:=by induction l using aet with
 |nil=>exact⟨rfl,h⟩
 |cons=>exact absurd h.symm e
noncomputable def qt (l:List O):Bool:=aeC true (λa c d=>afD false a λc=>d) l
theorem S0 (h:ah T α N vs l):qt l=true->∃ a,ItemsAre (ae2 prog w) a vs:=
 ah.ind (P:=λvs l=>qt l=true->∃ a,ItemsAre (ae2 prog w) a vs) (λc=>⟨[],.nil⟩)
  (fun{v A vs W}h r d e=>by
   have e:afD false A (λc=>qt W)=true:=e
   refine gE h e nofun λx t c c e=>?_
   refine aL (d e) ?_;clear d;intro a q;exact⟨_::a,.cons (agY prog w _ t) q⟩)
  (λc c c c e=>nomatch (show false=true from e)) (λc c c e=>nomatch (show false=true from e)) h
theorem Ex (R:SR c σ s α N) (h:VR W.kt α N v (.tup l)) (e:qt l=true):∃ a b,v=.ref a/\(tupleKind (ae2 W.prog W.w)).is s.heap b a:=by
 refine aH (eX R h) ?_;clear R h;intro a d A;subst A;intro f r;obtain⟨o,g,i,n,j⟩:=f;refine aL (S0 (prog:=W.prog) (w:=W.w) r e) ?_;clear r e;intro b q;exact (PC a b rfl o d.toArray n g i j (by simpa using q))
theorem E8{prog:ae0}{w:afh}{K:Type}[DecidableEq K]{knd:HeapKind prog w K}{h:afd}{a:aep}{o:Obj}(e:h.get? a=some o) (b:o.IsDictOf (ae2 prog w) []):h.DictOfH knd a []:=by
 refine kI b ?_;clear b;intro c A W f d g d;have i:c.toList=[]:=age.mp g.length;exact (PX o c A e W f i (λd j=>by simp at j) List.nodup_nil)
theorem units_in1 (a:aP c d A):A.in1.units<cLine:=by
 have W:A.in1.units<=A.units+1:=by first
  |exact aeu _
  |exact afY _
 have b:9001<cLine:=by decide
 exact af7 W (af7 (aev (af6 (aev (aeR _ _) a.units)) (by first|exact aeu _|decide)) b)
noncomputable def xF (a b:Ev):Tc:=λc k=>a c λd c=>b c λA c=>cD .no d λl=>aN .no (qt l) (dZ .no c.st A λe o=>ix .no o λW=>j7 .no W (k false c))
theorem U2 (I:ak c) (r:aP c d A){a b:aeD}{i j}{pos:Pos}(t:afy .In b=false) (u:aE c A a i) (v:aE c A b j):dz c A (.Compare a [.In] [b] pos) (xF i j):=by
 intro w L y h e s x N E R l Q z;refine ahq ?_ t;refine u w _ y h e s x N E R l _ λM P S T V X h B m n=>?_
 refine v _ _ _ h e _ _ _ _ B (l.step m.kp) _ λZ σ₂ rf d0 eh dJ h g o C=>?_
 refine Y (dO h e) ?_;clear h;intro qa f;subst f;intro h;refine ae (aS h e) λp h=>?_
 refine l9 g C h e λqb qc qd ao u_ lS q hg D h=>?_
 refine Y (l5 h e) ?_;clear h;intro es f;subst f;intro h;refine ae (kK h e) ?_;clear h e;intro f;subst f;intro h;refine Y D.inv λkvs F G=>?_
 obtain rfl:=G.nil_inv;refine be (Ex g (n.mono o.ge) p) ?_;clear n p;intro qe H f;subst f;intro hk;refine wpAny_in_heap (knd:=tupleKind (ae2 W.prog W.w)) (k:=H) ?_ hk (g.hi _ (aef _ q)) (E8 (g.get q) F) ?_
 ·exact units_in1 r
 ·exact afN (z _ _ _ _ _ h g.toks (m.trans o))
noncomputable def sy (a o:Ev):Tc:=λc k=>a c λW c=>o c λd c=>dZ .no c.st d λb o=>ix .no o λA=>j7 .no A (k false c)
theorem Qm (C:ak c) (D:aP c d A) (G:eH o=true) (l:(m.endLine ==n.line)=true) (H:afy .In (.Call (.Attribute o "values" m) [] [] n)=false) (I:aE c A a L) (M:aE c A o Q): dz c A (.Compare a [.In] [.Call (.Attribute o "values" m) [] [] n] pos) (sy L Q):=by
 intro S qa y h b s T N E R p qb V;refine ahq ?_ H;refine I S _ y h b s T N E R p _ λva X tQ Z cK bZ h dn q tz=>?_
 refine vL G rfl (by decide) l (M X _ y h b Z cK bZ E dn (p.step q.kp) _ λvb σ₂ rf g eh dJ h f mX la=>?_)
 intro pl;refine l9 f la h b λqc x ob ao r lS u hg jz h=>?_
 refine Y (l5 h b) ?_;clear h;intro v i h;subst i;refine ae (kK h b) ?_;clear h b;intro i h;subst i;refine Y jz.inv λkvs w ny=>?_
 obtain rfl:=ny.nil_inv;have j:=f.get u;have k:g.heap.DictOf (ae2 W.prog W.w) x []:=af3.mpr (ay ob j w);refine kI w λv z B uG tf sJ iU=>?_
 have hAt:g.heap.DictAt (ae2 W.prog W.w) x [] z:=(vp ob v j B uG tf sJ iU);have mU:=f.hi _ (aef _ u);refine getMethod_builtin k.typeIs F.plainAttrs_dict F.slot_dict_values F.type_dict_values (λa e=>by cases e;exact (ay _ j B.2.1)) ?_
 refine eL (P:=λr=>True) rfl (λl r=>(ay _ (.inr (.inl rfl)) (afV rfl))) ?_
 refine ag6 ⟨trivial,?_⟩;refine call_meetsIn PySem.F.slot_dict_values k.typeIs PySem.F.entry_dict_values (PySem.F.args_dict_values_1 _) (meets_dict_values (ae2 W.prog W.w) x mU) ⟨⟨[],k⟩,?_⟩;refine Ql (ep:=z) D.handled (dI _ (aeA _ rfl) rfl rfl) (hAt.at' λo e=>aeh _ e) λh' hk=>?_
 have bW:=f.ext C (h':=h') (t:=g.toks) λqd o e=>hk _ _ (aeh _ e)
 exact afN (V _ _ _ _ _ h bW (q.trans mX))
noncomputable def wN (e o i:Ev):Sc:=λc kn a=>e c λv c=>o c λd c=>i c λA c=>dZ .no c.st d λp o=>ix .no o λW=>j7 .no W (cD .no A λl=>aN .no (and (and (qt l) (vX (c.st.get (afb p)))) (not (cL p c.mark))) (kn (c.put p .any)))
theorem S2 (Q:ak c) (R:aP c d A){e o i:aeD}{r u v:Ev}{p S:Pos}(f:aE c A e r) (T:aE c A o u) (V:aE c A i v):bQ c A (.Assign [.Subscript o i S] e p) (wN r u v):=by
 intro X kn kr y h b s Z N E qa w qc cW cX;refine aii ?_ (zu _ _ _ _ _ _);refine f X _ y h b s Z N E qa w _ λqd dj val dk cK bZ h dn x hv=>?_
 have B:=w.step x.kp;refine T dj _ y h b dk cK bZ E dn B _ λov σ₂ abD d0 eh dJ h cA D CW=>?_
 have tD:=B.step D.kp;refine V σ₂ _ y h b d0 eh dJ E cA tD _ λiv m abE dU ji fY h g F G=>?_
 refine l9 g (CW.mono F.ge) h b λq qe qb ao j lS H hg jz h=>?_
 refine Y (l5 h b) ?_;clear h;intro n a;subst a;intro h;refine ae (kK h b) ?_;clear h;intro a;subst a;intro h;refine Y jz.inv λkvs I ny=>?_
 obtain rfl:=ny.nil_inv;refine Y (dO h b) ?_;clear h;intro qf a;subst a;intro h;refine ae (aS h b) λtE h=>?_
 refine ae (ad9.mp tE) λh12 uB=>?_
 refine ae (ad9.mp h12) λL l=>?_
 refine be (Ex g G L) ?_;clear G L;intro t M a;subst a;intro hk;refine wpAny_setItem_heap (knd:=tupleKind (ae2 W.prog W.w)) (k:=M) (units_in1 R) hk (E8 (g.get H) I) (λh' hd' uO=>?_)
 refine kU hd' λo' es' ep' jD j=>?_
 have xE:∀ z,m.st.get (q+1)=some z->q+1<m.n->(∃ C n,z=.obj C n)->False:=by
  intro z hz _ f;refine eY f ?_;clear f;intro C n a;subst a;have l:vX (m.st.get (q+1))=true:=l;rw [hz] at l;exact aX l
 have wM:∀ P,qb=afe P->∃ pd,o'=afe pd:=λP e=>by
  subst e;refine be I λj j a j=>?_;obtain⟨hx,_⟩:=a
  contradiction
 refine Y (g.qF (ao':=.any) (t:=dU.toks+(tupleKind (ae2 W.prog W.w)).draws M) Q ((aeK _).mp uB) lS H xE uO jD (λN' qg=>.any) wM) λN' lA eQ=>?_
 exact cW _ _ _ _ h lA (x.trans (D.trans (F.trans eQ))).toSts
end
section
section
variable{prog:ae0}{w:afh}{A:aeX}{E:aec->aeg->Prop}{s:aeg}
theorem O7:fillsNumberSlot (.type "tuple") "mul" =pure false:=
 PySem.fillsNumberSlot_seq (id:= "tuple.__mul__") (r:=some (.builtin "tuple.__rmul__")) ajv.lookup (by decide +kernel) F.slot_tuple_rmul.lookup (by decide +kernel)
theorem Pr:seqRepeat? (.type "tuple")=pure (some (.builtin "tuple.__mul__")):=by
 unfold seqRepeat?;rw[PySem.seqSlot_of (T:= "tuple") (name:= "__mul__") (id:= "tuple.__mul__") ajv.lookup (by decide +kernel),PySem.seqSlot_of (T:= "tuple") (name:= "__rmul__") (id:= "tuple.__rmul__") F.slot_tuple_rmul.lookup (by decide +kernel)]
 rfl
theorem Ph (a:Int) (t:Tok) (l:aep) (b:Array aec) (n:Nat) (d:Option aep) (sl:Array (Option aec)): Meets (Builtin.«int.__rmul__» ⟨[.int a t,.ref l],[]⟩) (λc R s=>s.heap.get? l=some {cls:=.type "tuple",dict:=d,data:=.seq b n,slots:=sl}/\R (.ok (.ret Value.notImplemented)) s):=
 .of_wp λprog w A R s h=>by obtain⟨E,g,d,e,os⟩:=s;refine ae h ?_;clear h;intro f h;wp_walk;exact (ay _ rfl h)
theorem Qn (l:aep) (a:Array aec) (n:Nat) (d:Option aep) (sl:Array (Option aec)) (u:Tok) (b:a.isEmpty=false): Meets (Builtin.«tuple.__mul__» ⟨[.ref l,.int 0 u],[]⟩) (λc R s=>s.heap.get? l=some {cls:=.type "tuple",dict:=d,data:=.seq a n,slots:=sl}/\R (.ok (.ret (afi s.heap.objs.size))) {s with heap:=s.heap.push {cls:=agw "tuple",data:=Data.seq #[]}}):=
 .of_wp λprog w A R s h=>by obtain⟨E,g,d,e,os⟩:=s;refine ae h ?_;clear h;intro f h;wp_walk;exact (ay _ rfl h)
theorem Qo {Q:aec->aeg->Prop}(c:IsTup s.heap l b) (i:b.isEmpty=false) (h:Q (.ref s.heap.objs.size) {s with heap:=s.heap.push {cls:=.type "tuple",data:=.seq #[]}}):aeF (aeI prog w) A (binaryOp .Mult (.ref l) (.int 0 u)) Q E s:=by
 refine kT (id c) ?_;clear c;intro j a e k f;obtain ⟨cls,d,data,g⟩:=j;simp only at e f;subst e f;exact wpAny_binaryOp_repeat_ref (T:= "tuple") (U:= "int") (by decide) (ay _ a rfl) (λm=>typeIs_int m 0 u) O7 F.fills_int_mul aiF Pr F.slot_int_index.lookup (ah6 aiF (typeIs_int s 0 u) F.entry_int_rmul (F.args_int_rmul_2 _ _) (Ph 0 u l b k d g) (j5 a rfl (ay _ a rfl) (ah6 ajv (ay _ a rfl) F.entry_tuple_mul (F.args_tuple_mul_2 _ _) (Qn l b k d g u i) ⟨a,h⟩)))
theorem Ey {Q:aec->aeg->Prop}(b:s.heap.IsList l vs.toArray) (n:-(2^63:Int)<=x) (o:x<2^63) (i:vs.length*x.toNat<=256) (e:(List.replicate x.toNat vs).flatten=ws) (h:Q (.ref s.heap.objs.size) {s with heap:=s.heap.push (aex ws.toArray 0)}):aeF (aeI prog w) A (binaryOp .Mult (.ref l) (.int x u)) Q E s:=by
 subst e;refine kT (id b) ?_;clear b;intro j a c k f;obtain⟨p,d,q,g⟩:=j;simp only at c f;subst c f;have r:vs.toArray.size*x.toNat<=256:=by simpa using i
 refine wpAny_binaryOp_repeat_ref (T:="list") (U:="int") (by decide) (ay _ a rfl) (λm=>typeIs_int m x u) noFill_list_mul F.fills_int_mul aiF repeat_list F.slot_int_index.lookup (ah6 aiF (typeIs_int s x u) F.entry_int_rmul (F.args_int_rmul_2 _ _) (lm_int_rmul_list_any x u l vs.toArray k d g) (j5 a rfl (ay _ a rfl) (ah6 F.slot_list_mul (ay _ a rfl) F.entry_list_mul (F.args_list_mul_2 _ _) (lm_list_mul_any l vs.toArray k d g x u (by simp[Builtin.List.listFitsIndex];omega) (by omega) (by simp[ahX,sizeLine];omega)) ⟨a,?_⟩)))
 rw[listMul_foldl_if];exact h
end
variable{W:Wd}{c:Cx W}{A:aeX}{d:Nat}
noncomputable def mulL (st:Tr) (a:O) (n:Nat):Option O:=aD none (eD st a) λl=>aen (aN none (and (aem n (nat_lit 1)) (aeQ l.length (nat_lit 200))) (some (.hl l))) (some (.hl [])) (aem n (nat_lit 0))
noncomputable def abG (st:Tr) (a b:O):Option O:=dR none b λj=>afw (motive:=λc=>Option O) j (λn=>cD (mulL st a n) a λl=>aN none (and (aem n (nat_lit 0)) (and (aeS l) (not l.isEmpty))) (some (.tup []))) (λc=>none)
noncomputable def ua (a b:Ev):Ev:=λc k=>a c λd c=>b c λA c=>aD .no (abG c.st d A) λv=>k v c
theorem ah.ne0 (h:ah T α N vs l) (b:aeS l=true) (e:(!l.isEmpty)=true):vs.toArray.isEmpty=false:=by
 induction l using aet with
 |nil=>exact aX e
 |cons a l=>refine be (h.cj (gB b).1) ?_;clear h b;intro v d c A;subst c;rfl
theorem Va (p:ak c) (P:aE c A a S) (T:aE c A b V):aE c A (.BinOp a .Mult b pos) (ua S V):=by
 intro X qd y h q s Z N E R I Q C;refine wpAny_BinOp ?_;refine P X _ y h q s Z N E R I _ λva dj tQ dk cK bZ h dn r D=>?_
 refine T _ _ _ h q _ _ _ _ dn (I.step r.kp) _ λvb σ₂ rf w eh dJ h e x la=>?_
 have F:=D.mono x.ge;refine Y (aR h q) ?_;clear h q;intro v d h;have L:∀ {j:Nat} {z:Tok},mulL σ₂.st va j=some v->WP W A (binaryOp .Mult tQ (.int (afs j) z)) Q E w:=by
  intro j z f;refine Y (aR f aO) ?_;clear f;intro l hl f;refine aH (jS e hl F) ?_;clear D;intro qa G k B M;subst k;induction m:aem j 0 using aee with
  |true=>
   obtain rfl:=aed m;have k:=aea f;subst v;refine Ey (ws:=[]) B (by decide) (by decide) (by exact afa _) rfl ?_
   refine ae (e.iH p (aex #[] 0) (t:=w.toks)) λo g=>?_
   exact C _ _ _ _ _ _ h o (r.trans (x.trans g)) (.hl (vs:=[]) (n:=0) (.head _) e.away .nil)
  |false=>
   rw[m] at f;refine ae (aS (show aN none (and (aem j 1) (aeQ l.length 200)) (some (O.hl l))=some v from f) aO) ?_;clear f;intro i hj2;refine ae (ad9.mp i) λm H=>?_
   obtain rfl:=aed m;have k:=aea hj2;subst v;have H:l.length<=200:=aei H;refine Ey (ws:=G) B (by decide) (by decide) (aev (af8 (Nat.mul_one _)) (aev M.le (aev H (by decide)))) (agu _) ?_
   refine ae (e.iH p (aex G.toArray 0) (t:=w.toks)) λo g=>?_
   exact C _ _ _ _ _ _ h o (r.trans (x.trans g)) (.hl (n:=0) (.head _) e.away (M.mono g.ge))
 refine i3 la d aO λqb z u_ d=>?_
 induction qb using afw with
 |negSucc=>exact aT d
 |ofNat j=>
  rcases l8 d with d|⟨l,rfl,d⟩
  ·exact L d
  ·refine ae (aS d aO) ?_;clear d;intro i d;have k:=aea d;subst v;refine ae (ad9.mp i) ?_;clear i;intro m i;refine ae (ad9.mp i) ?_;clear i;intro hp he;obtain rfl:=aed m;refine aH (eX e F) ?_;clear F D L;intro qa G k B qc;subst k;refine Qo (u:=z) B (qc.ne0 hp he) ?_;refine ae (e.iH p {cls:=.type "tuple",data:=.seq #[]} (t:=w.toks)) ?_;clear p;intro o g;exact C _ _ _ _ _ _ h o (r.trans (x.trans g)) (.tup (vs:=[]) (.head _) e.away ⟨rfl,rfl⟩ rfl .nil)
end
theorem Pd:ahD (.type "zip") "__getattr__" =pure none:=by rw[agS,af5];kernel_rfl
theorem Pt:ahD (.type "zip") "keys" =pure none:=by rw[agS,af5];kernel_rfl
theorem OS:entryFor table "zip.__getattribute__" =some Builtin.«object.__getattribute__»:=
 entryFor_alias (id':= "object.__getattribute__") (by kernel_rfl) (by decide +kernel) (by decide +kernel) (by kernel_rfl)
theorem OU (a:aep) (fs:Array aec) (u:Tok):
  Meets (Builtin.«object.__getattribute__» ⟨[.ref a,.str "keys" u],[]⟩) (λA R s=>s.heap.get? a=some {cls:=.type "zip",dict:=none,data:=.fields fs}/\raisesAttr (.ref a) "keys" A R s):=
 Meets.of_wp λh w A R s b=>by
  obtain⟨c,g,d,e,os⟩:=s
  refine ae b ?_;clear b;intro f b
  have i:(⟨c,g,d,e,os⟩:aeg).TypeIs (.ref a) "zip" :=(ay _ f rfl)
  have j:=Pt
  have k:(["__module__", "__name__", "__qualname__", "__doc__", "__annotations__"]:List Str).contains "keys" =false:=by decide
  unfold Builtin.«object.__getattribute__»
  repeat (any_goals (first|assumption|wp_step))
  exact wpAny_raiseAttrError b.1 b.2 (attrMsg_fits (by decide +kernel) (by decide))
section
variable{prog:ae0}{w:afh}{A:aeX}{E:aec->aeg->Prop}{s:aeg}
theorem Vb {Q:Option aec->aeg->Prop}(c:s.heap.get? a=some {cls:=.type "zip",dict:=none,data:=.fields fs}) (k:A.handled=none) (h:∀ h' tk,(∀ b o,s.heap.get? b=some o->h'.get? b=some o)->Q none {s with heap:=h',toks:=tk}):aeF (aeI prog w) A (getAttr? (.ref a) "keys") Q E s:=by
 obtain⟨l,g,d,tk,os⟩:=s
 have f:∀ i,(⟨l,g,d,i,os⟩:aeg).TypeIs (.ref a) "zip" :=λm=>(ay _ c rfl)
 have n:=sub_AttributeError
 have p:=ah9.lookup
 have q:=ah9.bind (.ref a)
 have r:=Pd
 unfold getAttr? getAttrBy? getAttrBy
 repeat (any_goals (first|assumption|exact f _|((with_reducible show aeF _ _ (call (Value.builtin "zip.__getattribute__") _ _) _ _ _);refine ah6 ah9 (f _) OS (F.args_zip_getattribute_2 _ _) (OU a fs _) (bH c k (λh' i e j=>?_)))|wp_step))
 refine eY j.there λt u v=>?_
 show aeF _ _ (getattributeRaised _ _ _ _ _ _ _) _ _ _
 unfold getattributeRaised
 repeat (any_goals (first|assumption|wp_step))
 exact h _ _ j.keeps
theorem Ta{Q:Option Obj->aeg->Prop}(h:Q (s.heap.get? a) s):aeF M A (loadIfAlive a) Q E s:=λw p b=>by
 show Sem.wp M w (.loadIfAlive a .pure) _ _ p s;rw[Sem.wp_loadIfAlive];simpa using h
theorem Tb {z b i d j T:aep}{k:Nat->aec->Prop}{f:Nat->afd->Prop}(g:ahB prog w A d l m k f) (n:z∉l) {p:Obj}{Q:Fin->aeg->Prop} (a:agQ s.heap z b i (ae6 T)) (q:s.heap.get? T=some p) (r:afC s.heap b (.ref d) (.ref j)) (G:b≠z) (t:f m s.heap) (u:∀ h' tk e,(∀ c o,c≠z->c≠d->s.heap.get? c=some o->h'.get? c=some o)->(∃ o,h'.get? e=some o/\o.cls=.type "StopIteration")->E (.ref e) {s with heap:=h',toks:=tk}): aeF (aeI prog w) A (Builtin.«zip.__next__» ⟨[.ref z],[]⟩) Q E s:=by
 show aeF _ _ (field (.ref z) 2 >>=_) _ _ _;refine aeb (ae3 a rfl (x:=.bool false) rfl ?_);show aeF _ _ (field (.ref z) 3 >>=_) _ _ _;refine aeb (ae3 a rfl (x:=.ref b) rfl ?_);refine aeb (agd r rfl ?_);show aeF _ _ (afp (.ref z) >>=_) _ _ _;refine aeb ?_;unfold afp;refine aeb (ae3 a rfl (x:=ae6 T) rfl ?_);show aeF _ _ (loadIfAlive ((T:Int).toNat) >>=_) _ _ _;rw[ajc];refine aeb (Ta ?_);rw[q];simp only[Option.isNone_some,ahm,if_false];refine aeb (ae3 a rfl (x:=.bool false) rfl ?_);rw[if_pos (by decide)]
 refine aeb (agN a (by simp) λH I h=>?_)
 refine aeo ?_;simp only[ahm,if_false];refine aeb ?_;rw[←Array.forIn_toList];rw[aiz];refine aeb (aeb (afO ?_));show aeF _ _ (afv (.ref d) >>=_) _ _ _;refine aeb (g.done _ _ _ (iB g t h n) λv e y B=>?_)
 exact u v s.toks e (λc o C D F=>y _ _ D (h.extBut _ _ C F)) B
theorem Pe {z a j d k T:aep}{l:Nat->aec->Prop}{f:Nat->afd->Prop}(m:ahB prog w A.in1 d n p l f) (r:z∉n) {t:Obj}{Q:Option aec->aeg->Prop} (g:agQ s.heap z a j (ae6 T)) (u:s.heap.get? T=some t) (v:afC s.heap a (.ref d) (.ref k)) (x:a≠z) (y:f p s.heap) (B:∀ h' tk,(∀ c o,c≠z->c≠d->s.heap.get? c=some o->h'.get? c=some o)->Q none {s with heap:=h',toks:=tk}):aeF (aeI prog w) A (aih (.ref z)) Q E s:=by
 have h:s.TypeIs (.ref z) "zip" :=(ay _ g rfl);unfold aih;refine aeb (ahJ (afI (name:=agv "__next__") h ahk (afL ahk h ajs (Tb m r g u v x y λh' tk e q i=>?_) (ajd _))))
 refine Y i ?_;clear i;intro o C D;refine aeb (aik (T:= "StopIteration") (b:=true) (ay o C D) isSubtype_stop ?_);exact aeo (B _ _ q)
end
section
section
variable{prog:ae0}{w:afh}{A:aeX}{E:aec->aeg->Prop}{s:aeg}
theorem E9:entryFor table "dict.update.loop" =some Builtin.«dict.update.loop»:=ajt (by kernel_rfl)
structure qM (h:afd) (z TI TO i1 i2 l1 l2:aep) (xs ys:Array aec):Prop where
 z:agQ h z TI TO .none
 ti:afC h TI (.ref i1) (.ref i2)
 to:afC h TO .none .none
 i1:h.IsTupleIter i1 l1 0
 i2:h.IsTupleIter i2 l2 0
 l1:h.IsTuple l1 xs
 l2:h.IsTuple l2 ys
theorem qM.push{h:afd}{z a c i1 i2 l1 l2 d f}(x:qM h z a c i1 i2 l1 l2 d f){h':afd}(e:∀ b o,h.get? b=some o->h'.get? b=some o):qM h' z a c i1 i2 l1 l2 d f:=
 ⟨e _ _ x.z,e _ _ x.ti,e _ _ x.to,x.i1.at λo=>e _ o,x.i2.at λo=>e _ o,x.l1.at λo=>e _ o,x.l2.at λo=>e _ o⟩
theorem F2{h:afd}{c:Array aec}(a:h.IsTupleIter i l 0)(b:h.IsTuple l c):l≠i:=λe=>by
 subst e;refine cJ a ?_;clear a;intro o A E d;refine cJ b ?_;clear b;intro f s w d;rw[A]at s;have g:=aea s;subst f;rw[E]at w;exact absurd w (by decide)
theorem Td {z p u a l n G D:aep}{R:aif->aeg->Prop}(P:A.handled=none) (Z:lO z p u a l [a,n] [l,G]) (S:qM s.heap z p u a l n G d H) (hn:d.size=H.size) (h1:d.size<=1)
  (f:D≠z/\D≠u/\D≠a/\D≠l) (j:s.heap.DictOf (ae2 prog w) D []) (hk:∀ (i:Nat) x,d[i]?=some x->∃ k:Str,(ae2 prog w).is k x=true)
  (h:∀ h' tk kvs,(d.size=0->kvs=[])->(∀ x y k,d[0]?=some x->H[0]?=some y->(ae2 prog w).is k x=true->kvs=[(k,y)])->h'.DictOf (ae2 prog w) D kvs->(∀ c o,c≠z->c≠u->c≠a->c≠l->c≠D->s.heap.get? c=some o->h'.get? c=some o)->R (.ok (.ret .none)) {s with heap:=h',toks:=tk}):
  agb (aeI prog w) A (.builtin "dict.update.loop" ⟨[.ref D,.ref z,ae6 0,.none],[]⟩) R s:=by
 have abH:z∉[a,n]:=Z.z1
 have LR:n≠a:=F2 S.i1 S.l1
 have abI:G≠l:=F2 S.i2 S.l2
 refine aiB E9 ?_
 unfold Builtin.«dict.update.loop»
 dsimp only
 have D1:=pM (prog:=prog) (w:=w) (A:=(A.under (.builtin "dict.update.loop" ⟨[.ref D,.ref z,ae6 0,.none],[]⟩)).in1) P a n LR d
 have D2:=pM (prog:=prog) (w:=w) (A:=(A.under (.builtin "dict.update.loop" ⟨[.ref D,.ref z,ae6 0,.none],[]⟩)).in1) P l G abI H
 rcases Nat.lt_or_ge 0 d.size with I|hz0
 ·have e1:d.size=1:=ajB h1 I
  refine aeb (DM D1 D2 Z S.z S.ti S.to ⟨S.i1,S.l1⟩ ⟨S.i2,S.l2⟩ I (hn▸I) λg tk x y L hy z1 to1 yu Nt Q v=>?_)
  dsimp only
  have DTO:D≠u:=f.2.1
  have Yr:∀ o,s.heap.get? D=some o->g.get? D=some o:=λo=>v D o f.1 DTO f.2.2.1 f.2.2.2
  have Ys:g.DictOf (ae2 prog w) D []:=by
   refine kU j ?_;clear j;intro o q t E r
   exact (vS o q t (Yr o E) r)
  have hTy:({s with heap:=g,toks:=tk}:aeg).TypeIs (.ref s.heap.objs.size) "tuple" :=(ay _ Q rfl)
  refine aeb (afO (aeb (wpAny_tryCatch ?_)))
  unfold Builtin.Dict.pairItems
  refine aeb (aiu hTy ?_)
  rw [if_pos (by decide)]
  refine aeb (agd Q rfl ?_)
  refine aeo ?_
  show aeF _ _ (holding [x,y] (dictSet D x y)) _ _ _
  refine aL (hk 0 x L) ?_;clear hk;intro k NO
  refine afO (wpAny_dictSet_pairs (knd:=ae2 prog w) (k:=k) NO Ys λF HA AR=>?_)
  refine aeo ⟨ah2 _ (by decide +kernel),aiB E9 ?_⟩
  unfold Builtin.«dict.update.loop»
  dsimp only
  have D1':=pM (prog:=prog) (w:=w) (A:=(A.under (.builtin "dict.update.loop" ⟨[.ref D,.ref z,ae6 (0+1),.none],[]⟩)).in1) P a n LR d
  have TIz:p≠z:=Z.TIz
  have TIi1:p≠a:=iZ Z.CF Z.pk
  have TIi2:p≠l:=iZ Z.CG Z.rC
  have DTI:D≠p:=λe=>by
   refine cg j ?_;clear j;intro o q t E T B
   rw [e,S.ti] at E
   have V:=aea E;clear E;subst o
   exact absurd (show agw "tuple" =agw "dict" from T.1) (by decide)
  have DT:D≠s.heap.objs.size:=λe=>by
   refine kU j ?_;clear j;intro o q t E B
   exact afx _ (e▸aeJ E)
  have Dl1:D≠n:=λe=>by
   refine cg j ?_;clear j;intro o q t E T B
   refine cJ S.l1 λo' jD iT B=>?_
   rw [e,jD] at E
   have V:=aea E;clear E;subst o'
   exact absurd (show agw "tuple" =agw "dict" from iT.symm.trans T.1) (by decide)
  have C:∀ b o,b≠D->g.get? b=some o->F.get? b=some o:=λb o hb e=>(AR.2 b hb).trans e
  have z2:agQ F z p u (ae6 s.heap.objs.size):=C _ _ f.1.symm z1
  have ti2:afC F p (.ref a) (.ref l):=C _ _ DTI.symm (v _ _ TIz Z.TITO TIi1 TIi2 S.ti)
  have abJ:F.IsTupleIter a n d.size/\F.IsTuple n d:=by
   rw [e1]
   exact ⟨yu.1.at λo=>C _ o f.2.2.1.symm,yu.2.at λo=>C _ o Dl1.symm⟩
  refine aeb (Pe D1' abH z2 (C _ _ DT.symm Q) ti2 TIz abJ λdK tl md=>?_)
  dsimp only
  refine aeb (m:=ajw _ _) (aeo ?_)
  refine aeo (h dK tl [(k,y)] (λe=>absurd I (e▸afx 0)) (λx' y' k' W X uP=>?_) ?_ λc o M c2 N c4 c5 e=>md _ _ M N (C _ _ c5 (v _ _ M c2 N c4 e)))
  ·rw [L] at W;have V:=aea W;clear W;subst x'
   rw [hy] at X;have V:=aea X;clear X;subst y'
   rw [(ae2 prog w).inj _ _ _ NO uP]
  ·refine kU HA ?_;clear HA;intro o q t E r
   exact (vS o q t (md _ _ f.1 f.2.2.1 E) r)
 ·have e0:d.size=0:=Nat.le_zero.mp hz0
  have e0':H.size=0:=hn▸e0
  refine aeb (DN D1 D2 Z S.z S.ti S.to (k:=0) ⟨S.i1,S.l1⟩ ⟨S.i2,S.l2⟩ e0.symm (afa _) λg tk v=>?_)
  dsimp only
  refine aeb (m:=ajw _ _) (aeo ?_)
  refine aeo (h g tk [] (λB=>rfl) (λx y k L B B=>?_) ?_ λc o M c2 N c4 c5 e=>v _ _ M c2 N c4 e)
  ·exact absurd (agn.mp L).1 (by rw [e0];exact afx 0)
  ·refine kU j ?_;clear j;intro o q t E r
   exact (vS o q t (v _ _ f.1 f.2.1 f.2.2.1 f.2.2.2 E) r)
theorem DU {Q:aec->aeg->Prop}(t:A.handled=none) (Z:lO z G m g j [g,H] [j,I]) (S:qM s.heap z G m g j H I a u) (L:a.size=u.size) (M:a.size<=1)
  (hk:∀ (i:Nat) x,a[i]?=some x->∃ k:Str,(ae2 prog w).is k x=true)
  (h:∀ h' tk kvs,(a.size=0->kvs=[])->(∀ x y k,a[0]?=some x->u[0]?=some y->(ae2 prog w).is k x=true->kvs=[(k,y)])->h'.DictOf (ae2 prog w) s.heap.objs.size kvs->(∀ c o,c≠z->c≠m->c≠g->c≠j->s.heap.get? c=some o->h'.get? c=some o)->Q (.ref s.heap.objs.size) {s with heap:=h',toks:=tk}):
  aeF (aeI prog w) A (call (.type "dict") [.ref z]) Q E s:=by
 refine callType_codes (Q₁:=λv B=>v=.ref s.heap.objs.size/\B={s with heap:=s.heap.push {cls:=.type "dict",data:=.dict #[]}}) F.kt_called_dict (F.kt_typeCall_dict_1 _) F.entry_dict_init (kt_code_dict_new _ ⟨rfl,rfl⟩) ?_
 rintro v B ⟨rfl,rfl⟩
 have l:(s.heap.push {cls:=.type "dict",data:=.dict #[]}).DictOf (ae2 prog w) s.heap.objs.size []:=ajC s.heap
 have n:=S.push (h':=s.heap.push {cls:=.type "dict",data:=.dict #[]}) λb o e=>aeh _ e
 have d:∀ {b:aep}{o:Obj},s.heap.get? b=some o->s.heap.objs.size≠b:=λe q=>afx _ (q▸aeJ e)
 have N:s.heap.objs.size≠z/\s.heap.objs.size≠m/\s.heap.objs.size≠g/\s.heap.objs.size≠j:=(j5 (d S.z) (d S.to) (by refine Y S.i1 λo f P=>?_;exact d f) (by refine Y S.i2 ?_;clear S;intro o f P;exact d f))
 refine (bH l.typeIs (F.args_dict_init_2 _ _) ?_)
 unfold Builtin.«dict.__init__»
 refine aeb ?_
 unfold Builtin.Dict.selfAndRest
 refine aeb (wpAny_notOrdered_dict l.typeIs ?_)
 show aeF _ _ (pure (s.heap.objs.size,[afi z])) _ _ _
 refine aeo ?_
 show aeF _ _ (ajA "dict.__init__" s.heap.objs.size (.ref z) [] .none) _ _ _
 unfold ajA
 have R:∀ tk,({s with heap:=s.heap.push {cls:=.type "dict",data:=.dict #[]},toks:=tk}:aeg).TypeIs (.ref z) "zip" :=λtk=>(ay _ n.z rfl)
 refine aeb (aiu (R s.toks) ?_)
 rw [if_pos (by decide)]
 refine aeb (Vb n.z t λh' tk p=>?_)
 rw [if_pos (by decide)]
 refine aeb (ahj ?_)
 have C:=n.push p
 refine aeb (aju C.z ?_)
 refine aeo ⟨ah2 _ (by decide +kernel),?_⟩
 have T:h'.DictOf (ae2 prog w) s.heap.objs.size []:=by
  refine kU l ?_;clear l;intro o V W f r
  exact (vS o V W (p _ _ f) r)
 refine Td (D:=s.heap.objs.size) t Z C L M N T hk λX abK kvs e0 e1 hd keep=>?_
 exact ⟨rfl,h X abK kvs e0 e1 hd λc o c1 c2 c3 c4 e=>keep c o c1 c2 c3 c4 (λq=>d e q.symm) (p _ _ (aeh _ e))⟩
end
variable{W:Wd}{c:Cx W}{A:aeX}{d:Nat}
noncomputable def HB (f e:List O):Option (List (Str×O)):=aet (motive:=λc=>Option (List (Str×O))) f (j7 none e (some [])) λa r=>j7 none r (iR none e λb=>afD none a λx=>aN none b.sure (some [(x,b)]))
theorem Te (f:HB g m=some h) (i:ah T α N j g) (k:ah T α N l m):(j=[]/\l=[]/\h=[])\/∃ x t w b,j=[.str x t]/\l=[w]/\h=[(x,b)]/\VR T α N w b:=by
 induction g using aet with
 |nil=>
  refine ae (kK f aO) ?_;intro c e;subst c;exact .inl ⟨i.nil_inv,k.nil_inv,(aea e).symm⟩
 |cons a r=>
  refine ae (kK f aO) ?_;clear f;intro c e;subst c;refine Y (jb e aO) ?_;clear e;intro b c e;subst c;refine Y (gD e aO) ?_;clear e;intro x c e;subst c;refine ae (aS e aO) λA e=>?_
  refine Y (kS i rfl) λq W d=>?_
  refine Y (kS k (ad9.mpr ⟨A,rfl⟩)) λn o p=>?_
  refine Y d.inv ?_;clear d;intro t c s;subst c;exact .inr (pP _ t n _ W o ((aea e).symm) p)
noncomputable def pX (e f:Ev):Ev:=λc k=>e c λa c=>f c λb c=>cD .no a λd=>cD .no b λA=>aD .no (HB d A) λW=>aN .no c.room (k (.ref c.n) (c.push (.dict W)))
theorem PR (s:ak c) (I:aP c d A) {n z:aeD}{nd nz:Nat}{c1 c2:Ev}(L:aey n=false) (M:aey z=false) (CX:c.scope.names[nd]?=some (("dict" :Str),aeW)) (hxz:c.scope.names[nz]?=some (("zip" :Str),aeW)) (CY:W.G.boot "dict" =true) (hbz:W.G.boot "zip" =true)
  (CP:aE c A n c1) (CQ:aE c A z c2):aE c A (.Call (.Name "dict" dp) [.Call (.Name "zip" zp) [n,z] [] p1] [] p2) (pX c1 c2):=by
 intro σ qe y h l qa α qb E R N qc hQ;refine Call_ (jX (v:=.type "dict") s CX (by decide) CY (by decide +kernel) R ?_)
 refine eL (P:=λg=>True) rfl (λB g=>(ay _ (.inr (.inl rfl)) (afV rfl))) ?_
 refine agh ?_ (fz rfl);refine Call_ (jX (v:=.type "zip") s hxz (by decide) hbz (by decide +kernel) R ?_)
 refine eL (P:=λg=>True) (by rw [afr,afr,L,M];rfl) (λB g=>(ay _ (.inr (.inl rfl)) (afV rfl))) ?_
 refine agh (CP σ _ y h l qa α qb E R N _ λqf dj Wr dk cK bZ h dn Q tz=>?_) (fz L)
 refine agh (CQ dj _ y h l dk cK bZ E dn (N.step Q.kp) _ λb σ₂ Ws a eh dJ h C S T=>?_) (fz M)
 refine ag6 ⟨trivial,?_⟩;have V:=tz.mono S.ge;refine Y (dO h l) ?_;intro l1 j X;subst j;refine Y (dO X l) ?_;clear X;intro l2 j h4;subst j;refine Y (aR h4 l) λZ hes h5=>?_
 refine ae (aS h5 l) λhr h6=>?_
 have h:=h6;refine aH (eX C V) ?_;clear V;intro b1 CR j D r1;subst j;refine aH (eX C T) ?_;clear T;intro b2 uN j F r2;subst j;have oV:b1<a.heap.objs.size:=by refine Y D λo G g=>?_;exact aeJ G
 have oW:b2<a.heap.objs.size:=by refine Y F λo G g=>?_;exact aeJ G
 refine DZ D F λm hz CH CI uK uL ec hk=>?_
 refine ag6 ⟨trivial,?_⟩;have ZS:qM m (a.heap.objs.size+4) (a.heap.objs.size+2) (a.heap.objs.size+3) a.heap.objs.size (a.heap.objs.size+1) b1 b2 CR.toArray uN.toArray:=⟨hz,CH,CI,uK,uL,Heap.IsTuple.at D λo e=>hk _ o e,Heap.IsTuple.at F λo e=>hk _ o e⟩
 have done:∀ f k p,f.DictOf (ae2 W.prog W.w) m.objs.size p->aU W.kt eh dJ p Z->(∀ c o,c≠a.heap.objs.size+4->c≠a.heap.objs.size+3->c≠a.heap.objs.size->c≠a.heap.objs.size+1->m.get? c=some o->f.get? c=some o)->qc (.ref m.objs.size) {a with heap:=f,toks:=k}:=by
  intro f k p q hb r;have jy:∀ b o,a.heap.get? b=some o->f.get? b=some o:=λb o e=>by
   have u:=aeJ e;exact r b o (aeE (aej u (aeR _ _))) (aeE (aej u (aeR _ _))) (aeE u) (aeE (aej u (aeR _ _))) (hk _ _ e)
  refine Y (af3.mp q) λo' jD NJ=>?_
  have f5:a.heap.objs.size<=m.objs.size:=by rw [ec];exact aeR _ _
  have bW:=C.own s (own:=[(m.objs.size,o')]) (t:=k) jy (λqg B=>by rw [ael.mp B];exact ⟨jD,f5⟩) (ae5 _ _)
  refine ae (SR.adopt (ao:=.dict Z) s hr bW λqd=>.dict NJ (hb.mono qd.ge)) λlA eQ=>?_
  exact hQ _ _ _ _ _ _ h lA (Q.trans (S.trans eQ)) (.ref (kD bW.len))
 rcases Te hes r1 r2 with ⟨rfl,rfl,rfl⟩|⟨x,H,qh,b,rfl,rfl,rfl,hwb⟩
 ·refine DU I.handled (Ab oV oW) ZS rfl (afa _) (λi x w=>nomatch w) λf k p e0 g q r=>?_
  obtain rfl:=e0 rfl;exact done f k [] q .nil r
 ·refine DU I.handled (Ab oV oW) ZS rfl (aeu _) (λi x' w=>?_) λf k p g n q r=>?_
  ·have:x'=.str x H:=by
    induction i using aez with
    |zero=>exact (aea w).symm
    |succ i=>exact aT w
   exact ⟨x,by rw [this];exact agY W.prog W.w x H⟩
  ·obtain rfl:=n _ _ x rfl rfl (agY W.prog W.w x H);exact done f k _ q (.cons hwb .nil) r
end
open Sem (wp)
section
variable{prog:ae0}{w:afh}{A:aeX}{R:aif->aeg->Prop}{E:aec->aeg->Prop}{h:afd}{g:Array GenState}{d:Drawn}{t:Nat}{os:afn}
variable{nm q:Str}{C N:aep}{bs bm:List aec}{hdct:Bool}{sn:List Str}{sub:List aec}{ab:Bool}{col:Option Bool}{dd:Option aep}{k0 k1 k2 k3 k5:Option aec}
noncomputable abbrev i5:String:="Exception.__new__"
structure qN (C:aep)(bm:List aec):Prop where
 BL:(afi C::bm).contains (.type "Exception")=true
 hasB:(afi C::bm).contains (.type "BaseException")=true
 noA:(afi C::bm).contains (.type "AttributeError")=false
 noN:(afi C::bm).contains (.type "NameError")=false
theorem Pu (B:qN C bm){Q:Unit->aeg->Prop}(a:h.get? C=some (ag2 nm q C N bs bm hdct sn sub ab col dd k0 k1 k2 k3 k5 i5)) (b:Q () ⟨h,g,d,t,os⟩):aeF M A (ahE i5 ⟨.ref C::rest,[]⟩) Q E ⟨h,g,d,t,os⟩:=by
 have F:=ag1
 have w:=B.BL
 have R:=F.noStar
 simp only[ahE,F.newKind,F.newSplit,F.newRow]
 repeat (first|refine af2 a ?_|(refine agB a ?_;rw[w])|refine wpAny_staticBase_exc a ?_|refine wpAny_madeBy_exc a ?_|simp only[bne_self_eq_false,ahm,if_false]|wp_step)
 exact b
theorem Wz (B:qN C bm) (a:h.get? C=some (ag2 nm q C N bs bm hdct sn sub ab col dd k0 k1 k2 k3 k5 i5)) (b:R (.ok (.ret (.ref (h.objs.size+1)))) ⟨(h.push {cls:=.type "tuple",data:=.seq rest.toArray}).push {cls:=.ref C,data:=.fields #[.ref h.objs.size,.none,.none,.none,.bool false,.none]},g,d,t,os⟩) (hrest:rest.length<=sizeLine:=by size_fits): agb (aeI prog w) A (.builtin i5 ⟨.ref C::rest,[]⟩) R ⟨h,g,d,t,os⟩:=by
 have F:=ag1
 have f:=F.ends
 have E:=B.BL
 have c:=B.noA
 have e:=B.noN
 refine codeAny_builtinAt F.entry ?_
 unfold Builtin.«BaseException.__new__»
 refine PySem.wpAt_bind ?_
 show PySem.wpAt _ _ _ (stack >>=_) _ _ _
 refine PySem.wpAt_bind (PySem.wpAt_stack λp below=>PySem.wpAt_of_wpAny ?_)
 wp_walk
 refine PySem.wpAt_of_wpAny ?_
 rw[F.owner]
 repeat (first|with_reducible refine wpAny_madeHere_exc F.canon a ?_|with_reducible refine af2 a ?_|(with_reducible refine agB a ?_;first|rw[E]|rw[c]|rw[e])|wp_step)
 show R _ _
 rw[af0]
 exact b
theorem Pw (B:qN C bm) {Q:Fin->aeg->Prop}
  (a:h.get? C=some (ag2 nm q C N bs bm hdct sn sub ab col dd k0 k1 k2 k3 k5 i5)) (j:∀ h₁:afd,(∀ b o,h.get? b=some o->h₁.get? b=some o)->Looks (aeI prog w) h₁ (ahD (.ref C) "__init__") (some (.ref c)))
  (l:h.get? c=some m) (n:m.cls=.type "function")
  (p:∀ h' e,Heap.MadeExcOf h h' e (.ref C) rest->h.objs.size<=e->
   aeF (aeI prog w) A (call (.ref c) (.ref e::rest)) (λr f=>r=.none/\Q (.done (.ret (.ref e))) f) E ⟨h',g,d,t,os⟩) (hrest:rest.length<=sizeLine:=by size_fits):
  aeF (aeI prog w) A (Builtin.«type.__call__» ⟨.ref C::rest,[]⟩) Q E ⟨h,g,d,t,os⟩:=by
 repeat (first|with_reducible refine af2 a ?_|with_reducible refine wpAny_madeBy_exc a ?_|wp_step)
 refine codeAny_call_builtin_code (ah2 _ ag1.quiet) (Pu B a ?_)
 refine Wz B a ?_ hrest
 show aeF _ _ _ _ _ _
 have k:∀ b o,h.get? b=some o->((h.push {cls:=.type "tuple",data:=.seq rest.toArray}).push {cls:=.ref C,data:=.fields #[.ref h.objs.size,.none,.none,.none,.bool false,.none]}).get? b=some o:=λb o e=>aeh _ (aeh _ e)
 have s:=k _ _ a
 have u:=k _ _ l
 have R:((h.push {cls:=.type "tuple",data:=.seq rest.toArray}).push
   {cls:=.ref C,data:=.fields #[.ref h.objs.size,.none,.none,.none,.bool false,.none]}).get? (h.objs.size+1)=some
   {cls:=.ref C,data:=.fields #[.ref h.objs.size,.none,.none,.none,.bool false,.none]}:=by heap_get
 have v:(afi C::bm).contains (.ref C)=true:=by simp
 unfold isInstance
 repeat (first|with_reducible refine af2 R ?_|(with_reducible refine agB s ?_;rw[v])|wp_step)
 show aeF _ _ (ahD (.ref C) _) _ _ _
 refine (j _ k).at ?_
 refine afO (aeb ?_)
 unfold bindSpecial
 refine aeb (aiu (T:= "function") (ay _ u n) ?_)
 rw[if_pos (by decide)]
 refine aeo (aeb (afE (p _ (h.objs.size+1) ⟨k,aiE (afY _),h.objs.size,R,aiE (aeu _),?_⟩ (afY _)) (λr f i=>?_) λy y x=>x))
 ·exact aeh _ (Heap.get?_push_at rfl rfl)
 ·refine ae i ?_;clear i;intro z D;subst z
  wp_walk
  exact D
theorem Vc (B:qN C bm){Q:aec->aeg->Prop} (a:h.get? C=some (ag2 nm q C N bs bm hdct sn sub ab col dd k0 k1 k2 k3 k5 i5)) (f:∀ h₁:afd,(∀ b o,h.get? b=some o->h₁.get? b=some o)->Looks (aeI prog w) h₁ (ahD (.ref C) "__init__") (some (.ref c))) (i:h.get? c=some j) (k:j.cls=.type "function") (l:∀ h' e,Heap.MadeExcOf h h' e (.ref C) rest->h.objs.size<=e-> aeF (aeI prog w) (A.under (.builtin "type.__call__" ⟨.ref C::rest,[]⟩)) (call (.ref c) (.ref e::rest)) (λr m=>r=.none/\Q (.ref e) m) E ⟨h',g,d,t,os⟩) (hrest:rest.length<=sizeLine:=by size_fits): aeF (aeI prog w) A (call (.ref C) rest) Q E ⟨h,g,d,t,os⟩:=by
 have p:=tc_lookup
 have s:=PySem.tc_bind (.ref C)
 have u:(⟨h,g,d,t,os⟩:aeg).TypeIs (.ref C) "type" :=(ay _ a rfl)
 refine agI (codeAny_of_tree ?_)
 show aeF _ _ (callAny (.ref C) _) _ _ _
 repeat (any_goals (first|assumption|with_reducible refine af2 a ?_|wp_step))
 refine ⟨rfl,?_⟩
 refine codeAny_call_builtin_at (ah2 _ (by decide +kernel)) entry_typeCall (wpAny_check_type_call_sub a (Pw (hrest:=hrest) B a f i k λh' e R n=>?_))
 exact l h' e R n
end
open PySem.Builtin PySem.Builtin.ObjectAttr
open Sem (wp)
section
variable{prog:ae0}{w:afh}{A:aeX}{R:aif->aeg->Prop}{E:aec->aeg->Prop}{h:afd}{g:Array GenState}{d:Drawn}{t:Nat}{os:afn}
variable{nm q:Str}{C N x:aep}{bs bm:List aec}{sn:List Str}{sub:List aec}{ab:Bool}{col:Option Bool}{dd:Option aep}{k0 k1 k2 k3 k5:Option aec}{newId:String}{mA:Str->Option aec}{name:Str}{v:aec}
theorem Vd (B:qN C bm) {Q:aec->aeg->Prop}
  (f:h.get? C=some (ag2 nm q C N bs bm hdct sn sub ab col dd k0 k1 k2 k3 k5 newId)) (i:h.get? e=some j) (o:j.cls=.ref C) (k:j.data=.fields vs) (l:vs[0]?=some (.ref t0))
  (c:Q .none ⟨(h.push {cls:=.type "tuple",data:=.seq rest.toArray}).update e (ahH (·.setIfInBounds 0 (.ref h.objs.size))),g,d,t,os⟩) (hrest:rest.length<=sizeLine:=by size_fits):
  aeF (aeI prog w) A (call (.builtin "Exception.__init__") (.ref e::rest)) Q E ⟨h,g,d,t,os⟩:=by
 have F:=ag1
 have p:=B.BL
 have s:=F.noStar
 refine agI (codeAny_call_builtin F.init.plain F.initEntry ?_)
 have uQ:∀ {v:aeX} {P:Unit->aeg->Prop} {R:aec->aeg->Prop},P () ⟨h,g,d,t,os⟩->aeF (aeI prog w) v (ahE "Exception.__init__" ⟨.ref e::rest,[]⟩) P R ⟨h,g,d,t,os⟩:=by
  intro v P R c
  simp only[ahE,F.initKind,F.initSplit,F.initRow]
  repeat (first|(with_reducible refine af2 i ?_;rw[o])|with_reducible refine af2 f ?_|(with_reducible refine agB f ?_;rw[p])|wp_step)
  refine ai9 ?_
  rw[show ∀ (a b:String) (n:Nat),Bind.check ⟨.positional, "*", "Exception",.self,[⟨"args",.varPos,false⟩]⟩ a b n (List.map (λx=>x.fst) ({pos:=afi e::rest}:Args).kw)=pure () from
   λa b n=>check_star_args _ _ _ _ _ _]
  exact aeo c
 refine uQ ?_
 unfold Builtin.«BaseException.__init__»
 dsimp only
 rw[if_neg (by simp)]
 unfold newTuple Builtin.BaseException.bexcPut
 have r:0<vs.size:=(agn.mp l).1
 have m:=aeh (h:=h) {cls:=.type "tuple",data:=.seq rest.toArray} i
 refine aeb (afH (aeb (aeb (ae3 m k l (aeb (ag3 m k r ?_))))) (by show rest.toArray.size<=sizeLine;rw[ae9];exact hrest))
 exact wpAny_letGo (aeo c)
theorem Tf {Q:Fin->aeg->Prop} 
  (G:h.get? C=some (ag2 nm q C N bs bm true sn sub ab col dd k0 k1 k2 k3 k5 newId)) (W:Looks (aeI prog w) h (ahD (.ref C) name) none) (X:refuseLoop (.ref x) "__setattr__" (.ref C::bm)=pure ()) (I:h.Inst x C mA)
  (H:∀ h' Z,h'.Inst x C (λy=>if y=name then some v else mA y)->
   (∀ b o,b≠x->(∀ c a,h.get? x=some c->c.dict=some a->b≠a)->h.get? b=some o->h'.get? b=some o)->
   (∀ c,h.get? x=some c->∃ i,h'.get? x=some i/\i.cls=c.cls/\i.data=c.data/\i.slots=c.slots/\(∀ a,c.dict=some a->i.dict=some a)/\((∀ a,c.dict=some a->False)->∃ a,i.dict=some a/\h.objs.size<=a))->Q (.done (.ret .none)) ⟨h',g,d,Z,os⟩) (L:Within mA ns:=by within_ways) (ec:ns.length<=sizeLine:=by size_fits):
  aeF (aeI prog w) A (Builtin.«object.__setattr__» ⟨[.ref x,.str name tk,v],[]⟩) Q E ⟨h,g,d,t,os⟩:=by
 refine j0 I ?_;clear I;intro o R m s hd
 rw[osa_eq,refuse_eq]
 have P:Looks (aeI prog w) h (typeOf (.ref x)) (.ref C):=by
  have:=(Looks.ld (M:=aeI prog w) (part:=none) R).andThen (f:=λo=>pure o.cls) (b:=o.cls) .now
  rw[m]at this
  exact this
 refine aeb (aeb (P.here (aeb (wpAny_mroOf_exc G ?_))))
 rw[X]
 refine aeo (aeb (P.here (aeb (W.here ?_))))
 refine aeb (aeo ?_)
 dsimp only
 unfold storeInOwnDict
 refine aeb (aeo ?_)
 show aeF _ _ ((ownDictForStores (.ref x)) >>=_) _ _ _
 refine aeb ?_
 show aeF _ _ (instanceDict x true) _ _ _
 unfold instanceDict
 refine aeb (wpAny_loadPart R ?_)
 rw[m]
 refine aeb ?_
 unfold classData
 refine aeb (ajg G (aeo ?_))
 dsimp only
 simp only[Bool.not_true,ahm,if_false]
 rcases hd with ⟨S,hmA⟩|⟨a,n,u,uR⟩
 ·rw[S]
  dsimp only
  rw[if_neg (by simp[typeHasDict])]
  have T:(h.push {cls:=.type "dict",data:=.dict #[]}).get? x=some o:=aeh _ R
  have z:x≠h.objs.size:=aeE (aeJ R)
  have fin:aeF (aeI prog w) A (do
    let d←alloc {cls:=.type "dict",data:=.dict #[]}
    update x λo=>{o with dict:=some d}
    dictMade (.ref C) x d) (λqa s'=>aeF (aeI prog w) A (match qa with|some d=>storeInDict d (.str name tk) name v|none=>noDictFor (.ref x) (.ref C) name (none:Option aec).isSome) Q E s') E ⟨h,g,d,t,os⟩:=by
   refine aeb (wpAny_alloc' ?_)
   refine aeb (wpAny_update' T ?_)
   refine aeo ?_
   have hgd:((h.push {cls:=.type "dict",data:=.dict #[]}).update x λo=>{cls:=o.cls,dict:=some h.objs.size,data:=o.data,slots:=o.slots}).get? h.objs.size
     =some {cls:=.type "dict",data:=.dict #[]}:=
    (aiL _ _ _ _ z.symm).trans (Heap.get?_push_at rfl rfl)
   have iU:((h.push {cls:=.type "dict",data:=.dict #[]}).update x λo=>{cls:=o.cls,dict:=some h.objs.size,data:=o.data,slots:=o.slots}).Ns h.objs.size (λl=>none):=
    (l7 _ (#[]) _ hgd rfl (λe he=>absurd he (by simp)) (λl=>rfl))
   show aeF _ _ (storeInDict h.objs.size (.str name tk) name v) _ _ _
   unfold storeInDict newKeyGuard
   refine aeb (aeo (aeb (wpAny_nsSet1 (Heap.Ns1.of_empty iU) λh' j k=>?_)))
   refine cg (j.count (Within.cons name v Within.nil)) λoD esD epD B D F=>?_
   refine aeb (wpAny_lookBehind B (by rw[D];exact pastItsLine_dict (aev F (by rw[ajq,List.length_nil,sizeLine_eq];omega))) ?_)
   refine aeo ?_
   have V:h'.get? x=some {cls:=o.cls,dict:=some h.objs.size,data:=o.data,slots:=o.slots}:=by
    refine (k.2 x z).trans (af4 _ T ?_)
    have CZ:=(Heap.get?_some_iff.mp R).2
    obtain ⟨oc,od,odt,kl⟩:=o
    induction odt using ah1<;>first|rfl|exact CZ
   refine H h' _ (nT ({cls:=o.cls,dict:=some h.objs.size,data:=o.data,slots:=o.slots}) V m s (.inr (dI h.objs.size rfl z.symm ?_))) (λb ob hbx l p=>?_)
    (λc r=>by obtain rfl:o=c:=aea (R.symm.trans r);exact (EG _ V rfl rfl rfl (λa e=>by rw[S]at e;exact aT e) (λl=>(ay _ rfl (aeu _)))))
   ·refine r8 j ?_;clear j;intro o' es ep e1 e2 e3 eu e4
    exact (zi o' es ep e1 e2 e3 eu (λy=>by rw[e4 y];by_cases hy:y=name<;>simp[hy,hmA]))
   ·exact (k.2 b (aeE (aeJ p))).trans ((aiL _ _ _ _ hbx).trans (aeh _ p))
  cases hdt:o.data<;>first|exact absurd hdt (s _)|exact fin
 ·rw[n]
  dsimp only
  refine aeo ?_
  show aeF _ _ (storeInDict a (.str name tk) name v) _ _ _
  unfold storeInDict newKeyGuard
  refine aeb (aeo (aeb (wpAny_nsSet1 uR λh' j k=>?_)))
  refine cg (j.count (Within.cons name v L)) ?_;clear L;intro oD esD epD B D F
  refine aeb (wpAny_lookBehind B (by rw[D];exact pastItsLine_dict (aev F (by rw[ajq];omega))) ?_)
  refine aeo ?_
  refine H h' _ (nT o ((k.2 x u.symm).trans R) m s (.inr (dI a n u j))) (λb ob l CY p=>?_)
   (λc r=>(EG c ((k.2 x u.symm).trans r) rfl rfl rfl (λl e=>e) (λqb=>by
    obtain rfl:o=c:=aea (R.symm.trans r)
    exact absurd n (qb a))))
  exact (k.2 b (CY o a R n)).trans p
end
open PySem.Builtin PySem.Builtin.ObjectAttr
open Sem (wp)
theorem Qp (self:aec):refuseLoop self "__setattr__" [.type "Exception",.type "BaseException",.type "object"]=pure ():=by
 unfold refuseLoop;kernel_rfl
noncomputable def sj:List aec->Bool
 |.ref a::r=>sj r
 |l=>l ==[.type "Exception",.type "BaseException",.type "object"]
theorem PS (self:aec):sj l=true->refuseLoop self "__setattr__" l=pure ():=by
 induction l with
 |nil=>intro e;exact aX e
 |cons v r a=> intro e;induction v using aff with
  |ref c=>rw[refuseLoop_ref];exact a (by unfold sj at e;exact e)
  |type n=>unfold sj at e;rw[beq_iff_eq.mp e];exact Qp self
  |_=>exact aX e
inductive abL (K:afM)(C:aep):Prop
 |mk (nm q N bs bm sn sub ab col dd k0 k1 k2 k3 k5)(h:K.lookup C=some (ag2 nm q C N bs bm true sn sub ab col dd k0 k1 k2 k3 k5 i5))(B:qN C bm)(ob:(afi C::bm).contains (.type "object")=true)(ht:sj bm=true)
structure mZ (K:afM)(C fI:aep):Prop where
 obj:abL K C
 init:agj K (.ref C) "__init__" =some (some (.ref fI))
 set:agj K (.ref C) "__setattr__" =some (some (.builtin "object.__setattr__"))
 msg:agj K (.ref C) "message" =some none
 abM:agj K (.ref C) "spot" =some none
 fn:isFn K (.ref fI)=true
section
variable{prog:ae0}{w:afh}{A:aeX}{E:aec->aeg->Prop}{s:aeg}{K:afM}{C fI x:aep}{mA:Str->Option aec}{name:Str}{v:aec}
theorem Ea {Q:Unit->aeg->Prop}(X:K.In s.heap) (H:mZ K C fI) (l:agj K (.ref C) name=some none) (I:s.heap.Inst x C mA)
  (m:∀ h' h,h'.Inst x C (λy=>if y=name then some v else mA y)->
   (∀ b o,b≠x->(∀ c a,s.heap.get? x=some c->c.dict=some a->b≠a)->s.heap.get? b=some o->h'.get? b=some o)->
   (∀ c,s.heap.get? x=some c->∃ d,h'.get? x=some d/\d.cls=c.cls/\d.data=c.data/\d.slots=c.slots/\(∀ a,c.dict=some a->d.dict=some a)/\((∀ a,c.dict=some a->False)->∃ a,d.dict=some a/\s.heap.objs.size<=a))->Q () {s with heap:=h',toks:=h}) (n:Within mA ns:=by within_ways) (p:ns.length<=sizeLine:=by size_fits):
  aeF (aeI prog w) A (setAttr (.ref x) name v) Q E s:=by
 obtain⟨S,q,N,T,V,sn,sub,W,Z,dd,k0,k1,k2,k3,k5,r,qa,t,u⟩:=H.obj
 have g:=PySem.F.store_object
 have j:=X _ _ r
 refine j0 (id I) λo z B hnc hd=>?_
 have k:Looks (aeI prog w) s.heap (typeOf (.ref x)) (.ref C):=by
  have:=(Looks.ld (M:=aeI prog w) (part:=none) z).andThen (f:=λo=>pure o.cls) (b:=o.cls) .now
  rw [B] at this
  exact this
 have D:Looks (aeI prog w) s.heap (isInstance (.ref x) (.type "object")) true:=k.andThen (by
  intro A' Q' E' F G L
  obtain⟨hh,gg,dd',tt,oo⟩:=F
  refine agB (G _ _ j) ?_
  rw [t]
  exact L)
 unfold setAttr callSpecial? specialOf
 refine aeb (wpAny_mkText (aeb (aeb (aeb (k _ _ _ _ (λi i e=>e) (ajo X H.set _ _ _ _ (λi i e=>e) (afO ?_)))))))
 rw [g.slot.bind]
 refine aeb (aeo (aeb (agI ?_)))
 refine codeAny_call_builtin g.slot.plain g.entry (@check_slot (aeI prog w) _ _ {s with toks:=s.toks+1} "object.__setattr__" "object" "__setattr__" (.ref x) [.str name s.toks,v] [] _ g.kind g.split D (g.args (.ref x) (.str name s.toks) v) ?_)
 obtain⟨hp,qb,qc,tk,os⟩:=s
 refine Tf (ns:=ns) j (ajo X l) (by rw [refuseLoop_ref];exact PS _ u) I (λh' h P hk R=>?_) n p
 exact aeo (aeo (m h' h P hk R))
end
section
variable{W:Wd}{c:Cx W}{A:aeX}{d:Nat}
noncomputable def vF (p:Nat->Pos):List Stmt:=[
 .Expr (.Call (.Attribute (.Name "Exception" (p 0)) "__init__" (p 1)) [.Name "self" (p 2),.Name "message" (p 3)] [] (p 4)) (p 5),
 .Assign [.Attribute (.Name "self" (p 6)) "message" (p 7)] (.Name "message" (p 8)) (p 9),
 .Assign [.Attribute (.Name "self" (p 10)) "spot" (p 11)] (.Name "spot" (p 12)) (p 13)]
theorem nJ{m:Str->Option aec}{Q:aec->aeg->Prop}{E:aec->aeg->Prop}(hk:c.env.scope.kind=.function) (a:c.env.kindOf x=some .local) (b:s.heap.Ns c.env.locals m) (e:m x=some v) (f:(x ==("__debug__" :Str))=false) (h:Q v s):WP W A (eval (.Name x pos) c.env) Q E s:=
 ajf (air hk a b e h) f
theorem Qq{K:afM}:findCls K (.type "Exception") (.type "type") "__init__" =some (.val (.builtin "Exception.__init__")):=by kernel_rfl
theorem Ve:Manifest.isStub "Exception" =false:=by decide +kernel
noncomputable def Fb(e C:aep)(h h':afd):Prop:=(∃ c d A,h'.get? e=some c/\c.cls=.ref C/\c.data=.fields d/\d[0]?=some A/\d[1]?=some .none)/\∀ b o,b≠e->h.get? b=some o->h'.get? b=some o
theorem Ri {p:Nat->Pos}{m:Str->Option aec}{mg mb:Str->Option aec}{E:aec->aeg->Prop}{Q:Flow->aeg->Prop} (hk:c.env.scope.kind=.function) (hg:c.env.globals=ae1) (a:c.env.builtins=agG) (r:c.env.kindOf "self" =some .local) (y:c.env.kindOf "message" =some .local) (h3:c.env.kindOf "spot" =some .local) (h4:c.env.kindOf "Exception" =some .globalImplicit) (xG:((p 1).endLine ==(p 4).line)=true) (F:Fr h c.env.locals s.heap m) (X:W.K.In h) (T:TopRead P loose mg mb h) (C0:nsIn W.K ae1 "Exception" =some none) (H:mZ W.K C fI) (u:m "self" =some (.ref e)) (B:m "message" =some j) (m3:m "spot" =some sv) (D:s.heap.get? e=some {cls:=.ref C,data:=.fields #[.ref t,.none,.none,.none,.bool false,.none]}) (G:e≠c.env.locals) (I:h.get? e=none) (hQ:∀ h' tk,Fb e C s.heap h'->Q .next {s with heap:=h',toks:=tk}):WP W A (ahf (vF p) c.env) Q E s:=by
 have X':=X.keeps F.keep;obtain ⟨nm,q,qb,bs,bm,sn,sub,ab,col,dd,k0,k1,k2,k3,k5,hC,qa,LU,ht⟩:=H.obj;unfold vF;refine ago (aiP ?_ (by unfold interactive;rw [hk];rfl) (jU rfl _ _ _))
 refine vL rfl rfl (by show 2<30;decide) xG ?_
 refine ahz hk h4 (loadGlobal_builtin (by rw [hg];exact T.g.keeps F.keep) (mg_none_of X T.g C0) (by rw [a];exact T.b.keeps F.keep) ((T.builtins "Exception" (by decide)).trans (show ahV "Exception" =some (.type "Exception") by decide +kernel)) ?_) (by decide)
 intro pl;refine method_type (T:= "Exception") F X (by rfl) Ve Qq rfl ?_
 refine eL (P:=λf=>True) rfl (λd f=>(ay _ (.inr (.inl rfl)) (afV rfl))) ?_
 refine agh (nJ hk r F.ns u (by decide) ?_) (fz rfl)
 refine agh (nJ hk y F.ns B (by decide) ?_) (fz rfl)
 refine ag6 ⟨trivial,?_⟩;obtain ⟨d,qc,dr,tk,os⟩:=s;refine Vd (rest:=[j]) qa (X' _ _ hC) D rfl rfl (t0:=t) rfl ?_;have k:((d.push {cls:=.type "tuple",data:=.seq [j].toArray}).update e (ahH (·.setIfInBounds 0 (.ref d.objs.size)))).get? e=some {cls:=.ref C,data:=.fields #[.ref d.objs.size,.none,.none,.none,.bool false,.none]}:= af4 _ (aeh _ D) rfl;have l:∀ b o,b≠e->d.get? b=some o->((d.push {cls:=.type "tuple",data:=.seq [j].toArray}).update e (ahH (·.setIfInBounds 0 (.ref d.objs.size)))).get? b=some o:=λb o a q=> (aiL _ _ _ _ a).trans (aeh _ q)
 generalize (d.push {cls:=.type "tuple",data:=.seq [j].toArray}).update e (ahH (·.setIfInBounds 0 (.ref d.objs.size)))=v at k l ⊢;have n:Fr h c.env.locals v m:=Eng.Fr.turned F (S:=[e]) (λb a=>by rw [ael.mp a];exact ⟨G,I⟩) λb o a q=>l b o (λz=>a (by rw [z];exact .head _)) q
 have abN:=X.keeps n.keep;refine ago (ahb (nJ hk y n.ns B (by decide) (nJ hk r n.ns u (by decide) ?_)) (jU rfl _ _ _))
 have abO:v.Inst e C (λf=>none):=(nT _ k rfl (λc q=>by contradiction) (.inl ⟨rfl,λf=>rfl⟩))
 refine Ea abN H H.msg abO (ns:=[]) (λL X8 abP k₂ M=>?_) Within.nil
 refine EF (M _ k) ?_;clear M;intro adW N c₂ abQ f f R;refine Y (R (λV q=>by exact aT q)) ?_;clear R;intro V WA WB
 have Z:∀ b o,b≠e->v.get? b=some o->L.get? b=some o:=λb o a q=>k₂ b o a (λw V g i=>by rw [k]at g;have bj:=aea g;clear g;subst w;exact aT i) q
 have x:Fr h c.env.locals L m:=Eng.Fr.turned n (S:=[e]) (λb a=>by rw [ael.mp a];exact ⟨G,I⟩) λb o a q=>Z b o (λz=>a (by rw [z];exact .head _)) q
 have abR:=X.keeps x.keep;refine ago (ahb (nJ hk h3 x.ns m3 (by decide) (nJ hk r x.ns u (by decide) ?_)) (jU rfl _ _ _))
 refine Ea abR H H.abM abP (ns:=["message"]) (λabS tl ad1 abT LV=>?_) (Within.cons _ _ Within.nil)
 refine EF (LV _ N) ?_;clear LV;intro Yt Yu abU abV f f f;refine ahh (hQ abS tl ⟨(zi Yt _ _ Yu (abU.trans c₂) (abV.trans abQ) rfl rfl),λb o a q=>?_⟩)
 refine abT b o a (λw dx' g i=>?_) (Z b o a (l b o a q))
 rw [N]at g;have bj:=aea g;clear g;subst w;rw [WA]at i;have bj:=aea i;clear i;subst dx';exact λz=>afx _ (aej (aeJ (l b o a q)) (z▸WB))
section
variable{M:Model}{E:aec->aeg->Prop}{env:Env}{nm q:Str}{C N:aep}{bs bm:List aec}{hdct:Bool}{sn:List Str}{sub:List aec}{ab:Bool}{col:Option Bool}{dd:Option aep}{k0 k1 k2 k3 k5:Option aec}{newId:String}
theorem Th{Q:Flow->aeg->Prop}(j:(afi C::bm).contains (.type "BaseException")=true) (k:A.handled=none) (h:aeF M A x (λv a=>∃ e b vs,v=.ref e/\a.heap.get? C=some (ag2 nm q C N bs bm hdct sn sub ab col dd k0 k1 k2 k3 k5 newId)/\ a.heap.get? e=some b/\b.cls=.ref C/\b.data=.fields vs/\vs[1]?=some .none/\E (.ref e) a) E s): aeF M A (raiseStmt env (some x) none) Q E s:=by
 unfold raiseStmt
 refine aeb (afE h (λv a c=>?_) λl l x=>x)
 refine Py c ?_;clear c;intro e b vs m W n f i o p;subst m
 obtain⟨r,g,d,t,os⟩:=a
 obtain⟨u,w,y,z⟩:=b
 dsimp only at f i
 subst f i
 repeat (first|with_reducible refine af2 n ?_|with_reducible refine af2 W ?_|(with_reducible refine agB W ?_;rw[j])|wp_step)
 rw[o]
 refine aeo ?_
 rw[if_neg (by decide)]
 exact aeo (wpAny_raiseNew_none k p)
end
theorem FunFrames.keeps{base h h':afd}:∀ {l:List Env},h.FunFrames base l->(∀ b o,h.get? b=some o->h'.get? b=some o)->h'.FunFrames base l
 |[],a,m=>trivial
 |env::a,⟨hk,⟨L,o,e,f,g,i⟩,j⟩,k=>(bH hk (pY L o e f (k _ _ g) i) (FunFrames.keeps j k))
structure sS (W:Wd)(fI:aep):Prop where
 fn:∃ od fd kl p,W.K.lookup fI=some ⟨.type "function",od,.func fd,kl⟩/\fd.body=.stmts (vF p)/\((p 1).endLine ==(p 4).line)=true/\codeIn W.K fd.code fd.qualname=true/\fd.globals=ae1/\fd.builtins=agG/\ fd.scope.names=[(("self" :Str),NameKind.local),(("message" :Str),NameKind.local),(("spot" :Str),NameKind.local),(("Exception" :Str),aeW)]/\fd.scope.kind=.function/\fd.scope.isCoroutine=false/\fd.scope.isGenerator=false/\ ∀ e m sp (s:aeg),W.K.In s.heap->BindsTo s fd ⟨[e,m,sp],[]⟩ [(("self" :Str),e),(("message" :Str),m),(("spot" :Str),sp)]
 ex:nsIn W.K ae1 "Exception" =some none
theorem Vf (y:ak c) (hd:A.depth+2<=990) (H:mZ W.K C B) (D:sS W B) (R:SR c σ s α N) {Q:aec->aeg->Prop}{E:aec->aeg->Prop}
  (hQ:∀ e h' tk,s.heap.get? e=none->(∃ m vs a0,h'.get? e=some m/\m.cls=.ref C/\m.data=.fields vs/\vs[0]?=some a0/\vs[1]?=some .none)->(∀ b o,s.heap.get? b=some o->h'.get? b=some o)->Q (.ref e) {s with heap:=h',toks:=tk}):
  WP W A (afc (.ref C) [g,h]) Q E s:=by
 obtain⟨nm,q,Nn,bs,bm,sn,sub,ab,col,dd,k0,k1,k2,k3,k5,hC,qa,LU,ht⟩:=H.obj
 refine OZ D.fn λod n kl G I ow xG tC hgl Nk L M nD BM mv=>?_
 refine Y R.fr λqd F d=>?_
 refine gH y.top λqe loose mg mb qb=>?_
 have T':=qb.toTopRead.keeps F.keep
 have lim:=y.lim.keeps F.keep
 have X:=R.aZ
 obtain⟨r,qc,dr,tk,os⟩:=s
 refine Vc qa (X _ _ hC) (λt k=>ajo (X.keeps k) H.init) (X _ _ I) rfl λh' e d f5=>?_
 refine cJ d.there λqf P htn l=>?_
 have u:=X.keeps d.keeps
 have w1:(afU "type.__call__" ⟨.ref C::[g,h],[]⟩).weight<=4:=Ek _
 have nv:(A.under (.builtin "type.__call__" ⟨.ref C::[g,h],[]⟩)).depth<recursionLimit:=by
  show A.depth+(afU "type.__call__" ⟨.ref C::[g,h],[]⟩).weight<1000
  omega
 have a:∀ x k,(x,k)∈[(("self" :Str),NameKind.local),("message",.local),("spot",.local),("Exception",.globalImplicit)]->n.scope.names.lookup x=some k:=by
  intro x k i
  rw [L]
  simp only [aeq,aha,or_false,aja]at i
  rcases i with⟨rfl,rfl⟩|⟨rfl,rfl⟩|⟨rfl,rfl⟩|⟨rfl,rfl⟩<;>decide
 refine agI (codeAny_call_def (fd:=n) (body:=vF G) (binds:=[(("self" :Str),afi e),(("message" :Str),g),(("spot" :Str),h)]) nv (u _ _ I) rfl (lim.keeps d.keeps) (codeRec_of u tC) ow (mv _ _ _ _ u) ?_ ?_ (λt uR v=>?_) nD BM M)
 ·rw [L];decide
 ·intro x i
  simp only [aeq,aha,or_false]at i
  rcases i with rfl|rfl|rfl
  ·exact a _ _ (.head _)
  ·exact a _ _ (.tail _ (.head _))
  ·exact a _ _ (.tail _ (.tail _ (.head _)))
 have S:e<h'.objs.size:=aeJ P
 let T:Cx W:={c with env:=callEnv n h'.objs.size B}
 have BI:Fr r T.env.locals t (λx=>[(("self" :Str),afi e),("message",g),("spot",h)].reverse.lookup x):=⟨uR,λb o q=>v _ _ (d.keeps _ _ q),by
  show r.objs.size<=h'.objs.size
  exact aev f5 (agM S)⟩
 refine afE (Ri (c:=T) (p:=G) (E:=λl l=>False) (Q:=λV Z=>V=.next/\∃ f j,Z=⟨f,qc,dr,j,os⟩/\Fb e C t f) M hgl Nk (a _ _ (.head _)) (a _ _ (.tail _ (.head _))) (a _ _ (.tail _ (.tail _ (.head _)))) (a _ _ (.tail _ (.tail _ (.tail _ (.head _))))) xG BI X T' D.ex H (by rfl) (by rfl) (by rfl) (v _ _ P) (aeE S) d.new λf j w=>(Ag rfl f j rfl w)) (λV Z hp=>?_) λl l z=>z.elim
 refine kL hp ?_;clear hp;intro bj f j pn w keep;subst bj;subst pn
 refine⟨rfl,hQ e f j d.new w λb o q=>keep b o (λz=>?_) (v _ _ (d.keeps _ _ q))⟩
 have q':r.get? b=some o:=q
 rw [z,d.new]at q'
 exact aT q'
theorem SR.led (R:SR c σ s α N):AI c α N:=by
 have d:=R.nodup;rw[aeO,aeY]at d;exact (bH d.1 (λp A=>⟨R.hi p (aef _ A),λW=>d.2.2 _ (aew A) _ W rfl⟩) R.all)
theorem Qr (a:ak c) (R:SR c σ s α N) (n:s.heap.get? e=none) (hk:∀ b o,s.heap.get? b=some o->h'.get? b=some o)
  (p:∃ f vs a0,h'.get? e=some f/\f.cls=.ref C/\f.data=.fields vs/\vs[0]?=some a0/\vs[1]?=some .none):XR c C (.ref e) σ {s with heap:=h',toks:=tk} α N:=by
 refine Y R.fr λm F d=>?_
 have g:=pushX a.below F a.frame a.kY;have r:∀ A∈(c.bF::c.outer),∀ b,A.frame=some b->b∈pg c:=λA he b h=>ah3.mpr (ay A he h)
 have t:∀ {b o},c.base.get? b=some o->b∉pg c:=λq d=>by
  rw[(g.frames.mem d).1]at q;exact aT q
 refine⟨⟨R.gens,R.led⟩,R.os,e,hideAll s.heap (pg c),s.heap,m,rfl,λb o q=>aiX _ (g.stays b o q) (t q),F,d,λb o q h=>aiX _ q h,λq i=>?_,agz hk,?_⟩
 ·refine bU (R.news q i) ?_;clear R i;intro u j k;refine (bH (aiX _ u λd=>?_) k j)
  refine Y (ah3.mp d) ?_;clear d;intro A he W;rcases aeq.mp he with rfl|he
  ·rw[a.frame]at W;exact j (aea W).symm
  ·refine Y ((a.below.frames.mem (ah3.mpr (ay A he W))).2) ?_;clear a he W;intro o l v;rw[k]at l;exact aT l
 ·refine (j5 (λb o q=>hk _ _ (aiD _ q)) ?_ (Eng.FunFrames.keeps (funFrames_hide g.frames r) hk) (.inl p))
  induction q:(hideAll s.heap (pg c)).get? e using aer with
  |none=>rfl
  |some o=>have:=aiD _ q;rw[n]at this;exact aT this
noncomputable def cw(C:aep)(args:eb):Sc:=λd c c=>args d λl c=>lP .no l λc c=>.exc C
theorem WC{α:Type}{l:List α}(h:l.length=2):∃ a b,l=[a,b]:=by
 induction l using aet with
 |nil=>exact absurd h (ajx 1).symm
 |cons a l=> induction l using aet with
  |nil=>exact absurd (afR h) (ajx 0).symm
  |cons b l=>rw[age.mp (afR (afR h))];exact⟨a,b,rfl⟩
theorem Rj (e:ak c) (i:aP c d A){C j:aep}(H:mZ W.K C j) (B:sS W j) (hk:keepIn W.K (.ref C)=true){x:Str}{n:Nat}{D k pos:Pos}{args:List aeD}{l:eb}(F:args.any aey=false)
  (G:c.scope.names[n]?=some (x,.globalImplicit)) (a:cH x=true) (I:W.G.name x=some (.glob C)) (L:gL c A args l):bQ c A (.Raise (some (.Call (.Name x D) args [] k)) none pos) (cw C l):=by
 intro M kn kr y h m s Q S E R o qd hn hr;rw [arm_exec_Raise];have T:=H;obtain⟨V,X,Z,bs,bm,sn,sub,ab,col,dd,k0,k1,k2,k3,k5,hC,qa,LU,ht⟩:=T.obj;refine aeb (ahF ?_);refine Th (nm:=V) (q:=X) (C:=C) (N:=Z) (bs:=bs) (bm:=bm) (hdct:=true) (sn:=sn) (sub:=sub) (ab:=ab) (col:=col) (dd:=dd) (k0:=k0) (k1:=k1) (k2:=k2) (k3:=k3) (k5:=k5) (newId:=i5) qa.hasB i.handled ?_;refine aeb (afE ?_ (λqe dU tS=>aeb (ahF (aeo tS))) λu_ u_ x=>x)
 refine Call_ (zU e G a I R λfv uS=>?_)
 cases uS
 refine eL (P:=λa=>W.K.In a) F (λa qb=>keeps_K hk a qb) ?_
 refine L M _ y h m s Q S E R o k _ λqf dj f dk cK bZ h b hY ie Cw=>⟨b.aZ,?_⟩
 refine be (ml h m) ?_;clear h;intro x1 x2 g h;subst g
 ·refine eY (WC (ie.len Cw)) ?_;intro v1 v2 g;subst g;refine Vf e (by have:=i.depth;omega) H B b λqc h' tk p1 p r=>?_
  refine r8 p ?_;clear p;intro t f a0 u v w e4 z;exact (PD qc t f rfl (r _ _ (b.aZ _ _ hC)) u v w z (o C _ dj _ cK bZ h.symm hY.kp (Qr e b p1 r (zi t f a0 u v w e4 z))))
theorem Vg{m:Str->Option aec}{M:Led}(F:Fr a L G m) (N:∀ q∈M,a.get? q.1=none/\q.1≠L):Fr a L (hideAll G (M.map (·.1))) m:=by
 refine gC F.ns λd A W f g h i=>?_
 refine⟨(l7 d A W (aiX _ f λq=>?_) g h i),λb o e=>aiX _ (F.keep b o e) λq=>?_,F.above⟩
 ·refine Y (aeG.mp q) λp c e=>?_
  exact (N p c).2 e
 ·refine Y (aeG.mp q) ?_;clear q;intro p c j;subst j;rw[(N p c).1]at e;exact aT e
noncomputable def Cx.at(c:Cx W)(g:afd):Cx W:={c with h₀:=g}
theorem ak.at{g:afd}(h:ak c)(K:Below c.A₀ c.base c.outer g):ak (c.at g):=⟨h.g,h.kZ.keeps K.stays,h.mT.keeps K.stays,K,h.kind,h.kY,h.frame,h.iE,h.qA,h.locs,(by refine gH h.lr λp l d A T=>?_;exact (nU p l d A (T.keeps K.stays))),h.cV,h.kZ,h.lr,h.mT,h.uw,h.cin,h.nk⟩
section
variable{qual:Str}{scope:aft}{f:aep}{dC:aec}{tt:aeD}{n:Str}{lu:afu}{qO:List afu}{pos:Pos}{Q:Flow->aeg->Prop}{E:aec->aeg->Prop}
theorem Rk (g:ak c) (xH:c.bF=agT qual scope c.L f dC) (CZ:A.frames=some (c.bF::c.outer)) (hk:scope.kind=.function) (eT:(agT qual scope c.L f dC).kindOf n=some .local)
  {D h}(x:XR c C F bu l D h) (T:∀ p G H I,KtsTest W.prog W.w W.K p G H I qual scope c.L f dC (.ref C) tt true)
  (k:∀ v h' tk e i m,KtsTurn (c.outer.filterMap (·.frame)) c.h₀ v->i.cls=.ref C->Fr v c.L h' (λy=>if y=n then some (.ref e) else m y)->NR c bu.loc D h m->agD v c.L h' ((e,i)::(h++c.ax))->(∀ p∈h++c.ax,p.1≠e)->c.base.get? e=none->ak (c.at v)->
   l.gens=#[]->l.os=W.os->AI c D h->aeF (aeI W.prog W.w) (A.mark (some (.ref e))) (ahf (lu::qO) c.bF)
    (λfl rd=>aeF (aeI W.prog W.w) A (do bindName c.bF n .none;unbindBehindTheSuite c.bF n pos) (λr kd=>Q fl kd) E rd)
    (AsSuiteRaised (aeI W.prog W.w) (A.mark (some (.ref e))) c.bF n pos (aio (aeI W.prog W.w) (A.mark (some (.ref e))) c.bF (agJ (aeI W.prog W.w) A c.bF E)))
    {l with heap:=h',toks:=tk}):
  WP W A (noteFrame F c.bF) (λr d0=>WP W A (setFlight F none) (λr L=>WP W A (handleBy F c.bF [.ExceptHandler (some tt) (some n) (lu::qO) pos]) Q E L) E d0) E l:=by
 refine EV g CZ x λLW a B' s M t x=>?_
 subst M
 obtain⟨⟨hg,led⟩,nu,a',B,qa,m,M,h1,h2,h3,h4,d,h6,f1,w,f3,f4⟩:=x
 cases M
 have u:=Vg h2 λq j=>⟨(d q j).2.1,(d q j).2.2⟩
 have N:∀ b o,(hideAll qa ((h++c.ax).map (·.1))).get? b=some o->b∉(agT qual scope c.L f dC::c.outer).filterMap (·.frame)->B.get? b=some o:=λb o q qb=>h4 b o (aiD _ q) (by unfold pg;rw [xH];exact qb)
 have go:∀ {s fl},Heap.TracedAtW LW B a (.ref C) s fl->WP W A (setFlight (.ref a) none) (λr L=>WP W A (handleBy (.ref a) c.bF [.ExceptHandler (some tt) (some n) (lu::qO) pos]) Q E L) E {l with heap:=LW}:=by
  intro s fl t
  refine wpAny_setFlight_noneW f1 f3 t λP R k2 k3 k4=>?_
  have S:Heap.FlyingW B (c.bF::c.outer) a (.ref C) s P:=(j5 R w k2 k3)
  have GH:(hideAll qa ((h++c.ax).map (·.1))).UpToSlots P:=(agz λb o q=>aiD _ q).trans (h6.trans λb o hb hn=>⟨o.slots,k4 b o hb hn⟩)
  refine cJ (kts_ground g.below u N R GH) ?_;clear R;intro xC ad2 tX LX
  refine gH g.lr λp G H I qc=>?_
  have LT:Looks (aeI W.prog W.w) P (typeOf (.ref a)) (.ref C):=by
   refine Y S.there λob hob g=>?_
   rw [←g]
   exact (Looks.ld hob).andThen .now
  rw [xH]at k S ⊢
  refine wpAny_handleBy_cons (codeAny_handlers_test (T p G H I _ _ _ _ xC a m tX (g.kZ.keeps LX.stays) (qc.toTopRead.keeps LX.stays) LT λad3 kp=>?_)) (by intro q;cases q)
  have V:=GH.trans (agz kp)
  refine codeAny_handlers_suite_as ?_
  refine lands_againW (flying_keeps S kp) λabW X Z=>?_
  refine cJ (kts_ground g.below u N X.1 (V.trans Z)) λtR BN xw abX=>?_
  refine eI X.first λi ws yA abY LY ad4=>?_
  have ne:tR.get? a=none:=BN.none_ _ (kts_fresh u N w λo ho hm=>by
   refine AH (g.below.frames.mem hm) ?_;clear hm;intro r o' jD z
   rw [ho]at jD
   have bj:=aea jD;clear jD;subst o'
   refine aL ((V.trans Z) _ _ (u.keep _ _ ho) z) ?_;clear V Z u ho;intro sl hs
   rw [yA]at hs
   have bj:=aea hs;clear hs;subst i
   exact z _ LY)
  have Nl:agD tR c.L abW (h++c.ax):=λq j=>(bH (X.1 _ _ (d q j).1) ((d q j).2.2) (BN.none_ _ (d q j).2.1))
  refine stN xw (News.more xw Nl yA (λes n q=>by rw [LY]at q;contradiction) ne) (λabZ ab0 ab1=>?_) hk eT
  exact k tR abZ _ a i m BN abY ab0 h3 ab1 (λp hp e=>by have:=(d p hp).1;rw [e,w]at this;exact aT this) (fresh_of_stays h1 w) (g.at abX) hg nu led
 rcases f4 with⟨i,vs,a1,e1,e2,e3,e4,e5⟩|⟨s,fl,t',_⟩
 ·refine PA t ?_;clear t;intro oe' CC T' oT ts he tM z yB r
  rw [he]at e1;have bj:=aea e1;clear e1;subst oe'
  rw [z]at e3;cases e3
  rw [yB]at e5;cases e5
 ·exact go t'
end
set_option backward.match.sparseCases true
theorem WD (j:ak c) (T:c.outer=[]) (n:c.bF=agT cn cs c.L ca ccd) (z:A.frames=some [c.bF]){m:Str->Option aec}(F:Fr c.h₀ c.L s.heap m) (N:agD c.h₀ c.L s.heap V)
  {R:aif->aeg->Prop}
  (Z:W.K.lookup f=some ⟨oc,od,.func (fnOf name a params body scope B C D E G i H),kl⟩) (lR:codeIn W.K i a=true) (iG:A.depth<recursionLimit)
  (mv:BindsTo s (fnOf name a params body scope B C D E G i H) args binds) (kc:∀ y∈binds,scope.names.lookup y.1=some .local)
  (h:∀ g L' h₁,Fr c.h₀ c.L g m->Fr g L' h₁ (λy=>binds.reverse.lookup y)->agD g L' h₁ V->Below A c.base [c.bF] g->c.h₀.StaysIn g->
   WP W (A.deeper (agT a scope L' f i)) (ahf body (agT a scope L' f i))
    (λfl k=>LeaveS0 [c.L] c.h₀ c.L m g R (match fl with|.ret v=>v|_=>.none) k)
    (λe k=>WP W (A.deeper (agT a scope L' f i)) (leaving (agT a scope L' f i) e) (λI r=>R (.error e) r) (λe' r=>R (.error e') r) k)
    {s with heap:=h₁,toks:=s.toks+binds.length})
  (nD:scope.isCoroutine=false) (BM:scope.isGenerator=false) (hk:scope.kind=.function)
  (AZ:∀ x∈scope.names,x.2≠.cell):agb (aeI W.prog W.w) A (.call (.ref f) args) R s:=by
 have t:=j.below
 rw [T] at t
 have X:=j.aZ.keeps F.keep
 have L:cs.kind=.function:=by have:=j.kY;rw [n] at this;exact this
 refine codeAny_call_def (fd:=fnOf name a params body scope B C D E G i H) (body:=body) (binds:=binds) iG (X _ _ Z) rfl (j.lim.keeps F.keep) (codeRec_of X lR) rfl mv AZ kc (λh₁ uR M=>?_) nD BM hk
 refine PV (kts_enter t F N (by rw [←n];exact z) L) ?_;clear t z L;intro oL es ep u hLd hN hNs st ab2
 refine afE (h _ s.heap.objs.size h₁ ⟨hN _ u,st,F.above⟩ ⟨uR,λb o e=>M b o (aiD _ e),af8 (hideAll_size _ _)⟩
  (λp d=>(bH (M _ _ (N p d).1) (aeE (aeJ (N p d).1)) (hideAll_none _ (aew d)))) (by rw [n];exact ab2) st) (λfl k P=>?_) λI I y=>y
 refine pO P ?_;clear P;intro g' L' m' adX l Q w qa
 have Yv:c.h₀.get? c.L=none:=kts_self F
 refine aL (l.up u) ?_;clear u;intro sl S
 refine qa ⟨hNs sl _ (Q.keep _ _ S),λb o e=>Q.keep b o (l.other b o (st b o e) (λq=>by
  rw [ael.mp q,Yv] at e
  exact aT e)),F.above⟩ λp d=>(bH ((w p d).1) (λq=>?_) ?_)
 ·have:=(w p d).2.2;rw [q,S] at this;exact nj this
 ·induction q:c.h₀.get? p.1 using aer with
  |none=>rfl
  |some o=>
   refine aL (l.up (st _ _ q)) ?_;clear l st q;intro sl' uO
   have:=(w p d).2.2
   rw [uO] at this
   exact nj this
noncomputable def nx(y:Rs):Rs:=match y with
 |.exc c=>.no
 |y=>y
theorem Yw(h:nx y=z)(a:z≠.no):y=z/\∀ C,z≠.exc C:=by
 induction y using Rs.casesOn with
 |exc C=>exact absurd h.symm a
 |no=>exact absurd h.symm a
 |ok v=>exact⟨h,λC e=>by rw[e]at h;cases h⟩
noncomputable def kg (Cs:List Nat) (hsc:Sc) (call:Call) (col:Nat) (args:List O):Ev:=λc k=>gf .no args λa r=>iR .no r λb=>qs .no b λD=>j7 .no c.mark
 (Rs.casesOn (motive:=λd=>Rs) (call (.glob col) [a] ⟨[(nat_lit 0,a),(nat_lit 1,.glob D)],[],c.st,c.n,c.lo,[]⟩ (λd d=>.no)) (λd=>.no) (λC=>aN .no (cL C Cs) (nx (hsc ⟨[(nat_lit 2,.fk C),(nat_lit 1,.glob D)],[],lJ,c.n,nat_lit 0,[]⟩ (λd=>.no) (λv A=>k v (back c A))))) .no)
theorem Vh{Cs hsc call col args σ k y}(h:kg Cs hsc call col args σ k=y) (e:y≠.no):∃ a D C,args=[a,.glob D]/\σ.mark=[]/\call (.glob col) [a] ⟨[(0,a),(1,.glob D)],[],σ.st,σ.n,σ.lo,[]⟩ (λf f=>.no)=.exc C/\cL C Cs=true/\
  nx (hsc ⟨[(2,.fk C),(1,.glob D)],[],lJ,σ.n,0,[]⟩ (λf=>.no) (λv i=>k v (back σ i)))=y:=by
 refine be (g9 h e) ?_;clear h;intro a r c W;subst c;refine Y (jb W e) ?_;clear W;intro b c g;subst c;refine Y (vq g e) ?_;clear g;intro D c j;subst c;refine ae (kK j e) λl d=>?_
 cases A:call (.glob col) [a] ⟨[(0,a),(1,.glob D)],[],σ.st,σ.n,σ.lo,[]⟩ (λf f=>.no) with
 |exc C=>
  rw [A] at d;refine ae (aS d e) λm n=>?_
  exact ⟨a,D,C,rfl,l,A,m,n⟩
 |_=>rw [A] at d;exact bO d e
set_option backward.match.sparseCases false
theorem NP{P:Prop}(a:i<j) (b:j<=0):P:=absurd (aej a b) (aiG _)
theorem Fc{l:List (Str×afm)}(a:(l.map (·.1)).Nodup){i j:Nat}{x y k b}(f:i<j)(g:l[i]?=some (x,k))(h:l[j]?=some (y,b)):x≠y:=λe=>aeE f (zE a g (e▸h))
theorem Ti {d':Nat} {call:Call} (qC:dv W d' call) (l:ak c) (ab3:c.outer=[]) {NQ:Str} {lcs:aft} {NS:aep} {LZ:aec} (xH:c.bF=agT NQ lcs c.L NS LZ) (mU:∃ o,c.base.get? afS=some o) (wj:c.comp=none)
  (hf:A.frames=some [c.bF]) (hd:A.depth+1+16*d'<=890) (hu:A.units+3+80*d'<=9000) (hh:A.handled=none)
  {a:aep} {fd:aJ} {B:Str} {E:aec} (H:tK W a fd B E) {cn f g V:Str} {p0 p1 p2 p3 tp b:Pos} {tt:aeD} {lu:afu} {qO rs:List afu}
  (ow:fd.body=.Try [.Expr (.Call (.Name cn p0) [.Name f p1] [] p2) p3] [.ExceptHandler (some tt) (some V) (lu::qO) b] [] [] tp::rs) (ab4:fd.params=[f,g])
  (n0:fd.scope.names[0]?=some (f,.local)) (z:fd.scope.names[1]?=some (g,.local)) (n2:fd.scope.names[2]?=some (V,.local)) {ic:Nat} (nc:fd.scope.names[ic]?=some (cn,.globalImplicit)) (ku:cH cn=true) (CX:(f ==("__debug__" :Str))=false)
  {col:aep} (hcv:W.G.name cn=some (.glob col)) (hck:(W.G.fn col).isSome=true) (AZ:∀ x∈fd.scope.names,x.2≠.cell)
  {hsc:Sc} (hs:∀ (c:Cx W) A,ak c->c.comp=none->c.scope=fd.scope->cy c A (lu::qO) hsc) {Cs:List Nat}
  (T:∀ C,cL C Cs=true->∀ p loose F G L,KtsTest W.prog W.w W.K p loose F G B fd.scope L a E (.ref C) tt true)
  {σ:LS} {s:aeg} {α N} (R:SR c σ s α N) {vals:List aec} {args:List O} (hv:ah W.kt α N vals args) (b:aeS args=true) {k:Kv} {y:Rs}
  (h:kg Cs hsc call col args σ k=y) (t:y≠.no) {RR:aif->aeg->Prop} (kQ:∀ v av X Z bG n,k av X=y->SR c X Z bG n->bh σ α N X bG n->VR W.kt bG n v av->RR (.ok (.ret v)) Z):
  agb (aeI W.prog W.w) A (.call (.ref a) ⟨vals,[]⟩) RR s:=by
 refine r8 (Vh h t) ?_;clear h;intro w D C r HC ab5 hCs h;subst r
 refine ae (Yw h t) λWE hyx=>?_
 obtain ⟨name,params,dV,kV,doc,pm,ct,oc,an,od,kl,ho,mv⟩:=H.at_
 have yq:mq fd [w,.glob D]=some [(f,w),(g,.glob D)]:=by
  unfold mq
  rw [ab4,if_pos ⟨aeu _,aeR _ _⟩]
  show some ([f,g].zip ([w,.glob D]++List.drop (fd.dh.length-0) fd.dh))=_
  rw [Nat.sub_zero,ahA]
  rfl
 refine Y (mv vals _ _ α N hv b yq) λbinds ny CA=>?_
 refine aH ny.cj ?_;clear ny;intro u b1 r gZ NT;subst r
 refine aH NT.cj ?_;clear NT;intro vb b2 r hvb hb2;subst r
 obtain rfl:=hb2.nil_inv
 obtain rfl:vb=.ref D:=hvb.inv
 refine Y R.fr λqb qc hm=>?_
 have nv:=zX hd
 have l0:=eW H.cV n0
 have l1:=eW H.cV z
 have l2:=eW H.cV n2
 have ab6:g≠f:=(Fc H.cV (Nat.zero_lt_one) n0 z).symm
 have ab7:g≠V:=Fc H.cV (agp 1) z n2
 refine WD l ab3 xH hf qc R.news ho H.code nv (CA s R.aZ) (λy t=>?_) (λqd I h₁ FG F' n B' st=>?_) H.co H.gen H.kind AZ
 ·rcases aeq.mp t with rfl|t
  ·exact l0
  ·exact ael.mp t▸l1
 let d:Cx W:=⟨A,c.base,[c.bF],qd,I,agT B fd.scope I a E,agT B fd.scope I a E,none,c.ax⟩
 have iT:ak d:=⟨l.g,l.aZ.keeps st,l.lim.keeps st,B',H.kind,H.kind,rfl,rfl,rfl,rfl,by refine gH l.top λp qa F G T=>?_;exact (nU p qa F G (T.keeps st)),H.cV,l.kZ,l.lr,l.mT,λm=>rfl,(λm m e=>nomatch e),l.nk⟩
 have L0:(A.deeper d.env).frames=some (d.bF::d.outer):=by show A.frames.map _=_;rw [hf];rfl
 have yr:aP d d' (A.deeper d.env):=⟨L0,hd,hu,hh⟩
 have mx:(λy=>[(f,u),(g,afi D)].reverse.lookup y) f=some u:=by
  show ahL f [(g,afi D),(f,u)]=some u
  rw [afq,beq_eq_false_iff_ne.mpr (Ne.symm ab6)]
  rw [afq,beq_self_eq_true]
 have my:(λy=>[(f,u),(g,afi D)].reverse.lookup y) g=some (.ref D):=by
  show ahL g [(g,afi D),(f,u)]=some _
  rw [afq,beq_self_eq_true]
 generalize hmm:(λy=>[(f,u),(g,afi D)].reverse.lookup y)=m' at mx my F'
 have R':SR d ⟨[(0,w),(1,.glob D)],[],σ.st,σ.n,σ.lo,[]⟩ ⟨h₁,s.gens,s.drawn,s.toks+2,s.os⟩ α N:=by
  refine ⟨(ay _ F' (λi v e=>?_)),λi v e=>(by exact aT e),n,R.nodup,R.inj,R.obj,R.all,R.hi,R.wf,R.bD,R.len,R.low,λi e=>(nomatch e),R.gens,R.os,iT.aZ.keeps F'.keep⟩
  rcases sR e with ⟨rfl,rfl⟩|⟨rfl,rfl⟩
  ·exact (dx f .local u n0 mx gZ)
  ·exact (dx g .local (.ref D) z my (.glob D))
 rw [ow]
 refine ago (wpAny_Try_except (ago (aiP ?_ (by unfold interactive;rw [show (agT B fd.scope I a E).scope.kind=.function from H.kind];rfl) (jU rfl _ _ _))))
 refine Call_ (zU iT nc ku hcv R' λfv uS=>?_)
 obtain rfl:fv=.ref col:=uS.inv
 refine eL (c:=d) (P:=λb=>W.K.In b) (by rfl) (λb qe=>keeps_K (l.g.keep col (.inl hck)) b qe) ?_
 refine agh (nJ (c:=d) H.kind l0 F'.ns mx CX ?_) (fz rfl)
 refine ag6 ⟨R'.aZ,?_⟩
 refine qC d _ iT yr (.glob col) [w] _ _ _ ab5 (by intro q;contradiction) _ _ _ _ R' (λC' ev X Z bG n q gk gl x=>?_) _ _ (.glob col) (.cons gZ .nil) (by rw [show aeS [w]=(w.sure&&true) from rfl];rw [i6 gZ];rfl) _ λm m m m m m q=>by contradiction
 cases q
 have hfo:d.outer.filterMap (·.frame)=[c.L]:=by
  show [c.bF].filterMap _=_
  rw [aiM,l.frame];rfl
 refine Rk (c:=d) iT rfl L0 H.kind l2 x (λp qa F G=>T C hCs p qa F G I) (λg' h' tk e oe m₂ hT yA q9 oq dJ eS A0 qK hg nu M=>?_)
 have Yx:Ge α N α ((e,oe)::n):=⟨afA _,λp b hn=>.tail _ (gk.ge.keep p b hn),λm h=>.inl h,λP ps h=>(aL (gk.ge.tab P ps h) λpd h'=>⟨pd,.tail _ h'⟩)⟩
 have nN:e∉(n++c.ax).map (·.1):=λq=>by
  refine Y (aeG.mp q) λp b ep=>?_
  exact eS p b ep
 have eα:e∉α:=λq=>nN (by rw [aeO];exact aef _ (M.2.2 e (gk.ge.pre.subset q)))
 have cA:SR (d.at g') ⟨[(2,.fk C),(1,.glob D)],[],lJ,σ.n,0,[]⟩ {Z with heap:=h',toks:=tk} α ((e,oe)::n):=by
  refine ⟨(ay _ q9 (λi v q=>?_)),λi v e=>(by exact aT e),dJ,?_,R.inj,λi o m q=>(by rw [show lJ.get i=none from zA] at q;exact aT q),λa ha=>?_,λp b=>?_,ym,R.bD,R.len,afa _,λi e=>(nomatch e),hg,nu,qK.aZ.keeps q9.keep⟩
  ·rw [gl] at oq
   rcases sR q with ⟨rfl,rfl⟩|⟨rfl,rfl⟩
   ·exact (dx V .local (.ref e) n2 (if_pos rfl) (.fk (.head _) eα yA))
   ·refine cg (oq 1 (.glob D) rfl) λx' k' val z1 z2 z3=>?_
    refine ae (aeZ (aea (z.symm.trans z1))) ?_;clear z1;intro r m;subst r
    obtain rfl:val=.ref D:=z3.inv
    exact (dx g .local (.ref D) z ((if_neg ab7).trans z2) (.glob D))
  ·show (((e,oe)::(n++c.ax)).map (·.1)).Nodup
   rw [aeL]
   refine aeU.mpr ⟨nN,?_⟩
   have nd:=R.nodup
   rw [aeO,aeY] at nd
   rw [aeO]
   refine aeY.mpr (bH M.1 nd.2.1 (λa ha qg hb=>?_))
   rintro rfl
   refine Y (aeG.mp ha) ?_;intro p b r;subst r
   exact (M.2.1 p b).2 hb
  ·exact ahy _ (M.2.2 a (gk.ge.pre.subset ha))
  ·rcases aeq.mp b with rfl|b
   ·refine beq_eq_false_iff_ne.mpr λqf=>?_
    refine aL mU λo ho=>?_
    have A0:c.base.get? e=none:=A0
    exact nomatch ho.symm.trans ((congrArg _ (show e=afS from qf)).symm.trans A0)
   ·rcases aeH.mp b with b|b
    ·exact (M.2.1 p b).1
    ·exact R.hi p (aek _ b)
 refine hs (d.at g') _ qK rfl rfl _ _ _ y WE t _ _ _ _ cA (λC' e' k8 dU ji fY q=>absurd q (hyx C')) _ (λk8 dU ji fY q=>absurd q.symm t) λav k8 v dU ji fY hk j Q pj=>?_
 refine Y j.fr λad5 jr m=>?_
 refine name_goes_keeps jr j.news (λLF v' tX mY=>?_) H.kind l2
 have ge:=Yx.trans Q.ge
 rw [hfo] at hT
 refine leaveS0_ tX mY hT λL7 ab8=>kQ v av (back σ k8) _ ji fY hk ⟨(ay qb L7 (hm.mono ge)),R.aK.mono ge,ab8,j.nodup,j.inj,j.obj,j.all,j.hi,j.wf,j.bD,j.len,j.low,λi q=>(by
  have q:i∈σ.mark:=q
  exact nomatch (HC▸q:i∈[])),j.gens,j.os,l.aZ.keeps L7.keep⟩ ⟨⟨ge,aev Q.lo (afa _),λi S=>NP S Q.lo,Q.n,rfl,λi a o S=>NP S Q.lo,λi S=>?_⟩,rfl⟩ pj
 exact nomatch (HC▸S:i∈[])
end
section
variable{W:Wd}
structure Gm where
 names:List (Str×afm)
 call:Call
 d:Nat
 code:Option (aep×Str)
 bA:Bool
structure c8 (G:Gm)(c:Cx W)(A:aeX):Prop where
 hc:ak c
 hA:aP c G.d A
 cl:dv W G.d G.call
 nm:∀ (n:Nat)x k,G.names[n]?=some (x,k)->cH x=true/\∃ k',c.scope.names[n]?=some (x,k')/\(k'=k\/(k=.free/\k'=.cell))
 ex:G.bA=false->c.scope.names=G.names/\c.comp=none
 cd:∀ x,G.code=some x->c.env.code=.ref x.1/\c.env.qual=x.2
theorem c8.with (h:c8 G c A) (a:∀ p∈c.ax,p∈M):c8 G (c.with M) A:=
 ⟨h.hc.with a,h.hA.with M,h.cl,h.nm,h.ex,h.cd⟩
theorem c8.call(h:c8 G c A):ja c A G.call:=h.cl c A h.hc h.hA
theorem c8.at{G:Gm}(h:c8 G c A){n:Nat}{x k}(e:G.names[n]?=some (x,k)) (hk:k≠.free):c.scope.names[n]?=some (x,k):=by
 refine AH (h.nm n x k e) ?_;clear h e;intro b d a W;rcases W with rfl|⟨W,_⟩
 ·exact a
 ·exact absurd W hk
theorem c8.pl{G:Gm}(h:c8 G c A){n:Nat}{x k}(e:G.names[n]?=some (x,k)):cH x=true:=(h.nm n x k e).1
theorem wQ:NameKind.local≠.free:=by intro h;contradiction
theorem gi:aeW≠.free:=by intro h;contradiction
theorem HD:ahd≠.free:=by intro h;contradiction
variable(W)in
noncomputable def JE(G:Gm)(e:aeD)(ce:Ev):Prop:=∀ (c:Cx W)A,c8 G c A->aE c A e ce
variable(W)in
noncomputable def JT(G:Gm)(e:aeD)(ct:Tc):Prop:=∀ (c:Cx W)A,c8 G c A->dz c A e ct
variable(W)in
noncomputable def JV(G:Gm)(es:List aeD)(ce:eb):Prop:=∀ (c:Cx W)A,c8 G c A->gL c A es ce
variable(W)in
noncomputable def JS(G:Gm)(st:afu)(cs:Sc):Prop:=∀ (c:Cx W)A,c8 G c A->bQ c A st cs
variable(W)in
noncomputable def JB(G:Gm)(ss:List afu)(cs:Sc):Prop:=∀ (c:Cx W)A,c8 G c A->cy c A ss cs
variable(W)in
noncomputable def JG(G:Gm)(e:aeD)(tg:Tg):Prop:=∀ (c:Cx W)A,c8 G c A->kb c A e tg
variable(W)in
noncomputable def JN(G:Gm)(x:Str)(tg:Tg):Prop:=∀ (c:Cx W)A,c8 G c A->qZ c A x tg
variable (W) in
noncomputable def jE (G:Gm) (es:List aeD) (g:iS):Prop:=∀ (c:Cx W) A,c8 G c A->(agH es c.env).findIdx? (·.1)=none/\(agH es c.env).length=es.length/\mr c A ((agH es c.env).map (·.2)) g
variable (W) in
noncomputable def rI (G:Gm) (xs:List Str) (g:iS):Prop:=∀ (c:Cx W) A,c8 G c A->mr c A (xs.map λn v=>bindName c.env n v) g
variable(W)in
noncomputable def JI(G:Gm)(t e:aeD)(it:iV):Prop:=∀ (c:Cx W)A,c8 G c A->tw c A t e it
variable(W)in
noncomputable def JP(d:Nat)(f:aec)(p:Prim):Prop:=∀ (c:Cx W)A,ak c->aP c d A->dQ c A f p
variable{G:Gm}
noncomputable def cf (a:List (Str×afm))(x:Str):Bool:=a.any λp=>p.1 ==x&&p.2 ==.globalImplicit
theorem gh (h:cf c x=true):∃ n:Nat,c[n]?=some (x,aeW):=by
 refine Y (List.any_eq_true.mp h) ?_;clear h;intro p G q;rw[ae4]at q;refine aL (aht.mp G) ?_;clear G;intro n e;obtain⟨a,b⟩:=p;exact⟨n,by rw[e,←beq_iff_eq.mp q.1,←beq_iff_eq.mp q.2]⟩
noncomputable def jG:Ev:=λG G=>.no
noncomputable def NU:Tc:=λG G=>.no
noncomputable def g0:Sc:=λG G G=>.no
theorem jNo:JE W G e jG:=λa a a a a a h b=>bO h b
theorem ab9:JT W G e NU:=λa a a a a a h b=>bO h b
theorem oY:JS W G s g0:=λa a a a a a a h b=>bO h b
theorem Ma:JB W G s g0:=λa a a a a a a h b=>bO h b
theorem jC (c:An d=some a):JE W G (.Constant d kk pos) (cC a):=λb b b=>sZ c
theorem aca{x pos}{n:Nat}(a:G.names[n]?=some (x,.local)):JE W G (.Name x pos) (J n):=λb b h=>kO h.hc (h.at a wQ) (h.pl a)
noncomputable def A1 (a:List (Str×afm))(n:Nat)(x:Str):Bool:=match a[n]? with
 |some (y,k)=>y ==x&&(k ==.cell ||k ==.free)
 |none=>false
theorem acb (a:A1 G.names n x=true):JE W G (.Name x pos) (aA n):=λc A h=>by
 unfold A1 at a;split at a
 ·rename_i y k e;rw[ae4]at a;refine ae a ?_;clear a;intro b hk;rw[beq_iff_eq.mp b]at e;refine AH (h.nm _ _ _ e) ?_;clear e;intro d f g i;refine Uj h.hc ?_ g d;rcases i with rfl|⟨_,rfl⟩
  ·induction f using NameKind.casesOn<;>first|exact .inl rfl|exact .inr rfl|exact aX hk
  ·exact .inl rfl
 ·exact aX a
theorem jGl{x pos v}(a:cf G.names x=true) (c:W.G.name x=some v):JE W G (.Name x pos) (cC v):=λb b h=>(aL (gh a) λb a=>RZ h.hc (h.at a gi) (h.pl a) c)
theorem acd (d:JT W G t e) (f:JE W G a g) (i:JE W G b j):JE W G (.IfExp t a b pos) (bC e g j):=λc A h=>Uk (d c A h) (f c A h) (i c A h)
theorem ace (d:afy op b=false) (e:JE W G a f) (g:JE W G b i):JE W G (.Compare a [op] [b] pos) (c0 op f i):=λc A h=>Fz h.hc h.hA h.hc.g.tok d (e c A h) (g c A h)
theorem HE (d:afy op b=false) (e:JE W G a f) (g:JE W G b i):JT W G (.Compare a [op] [b] pos) (au op f i):=λc A h=>zS h.hc h.hA h.hc.g.tok d (e c A h) (g c A h)
theorem acf (a:zT e=true)(b:JE W G e d):JT W G e (cF d):=λc A h=>Gv h.hc a (b c A h)
theorem Yy (a:JT W G x b):JT W G (.UnaryOp .Not x pos) (eZ b):=λc A h=>FC (a c A h)
theorem WG:JT W G (.BoolOp .And [] pos) bo:=λc A h=>R1
theorem Vi:JT W G (.BoolOp .Or [] pos) dP:=λc A h=>QI
theorem Yz (a:JT W G x b) (d:JT W G (.BoolOp .And rest pos) e):JT W G (.BoolOp .And (x::rest) pos) (c6 b e):=λc A h=>Un (a c A h) (d c A h)
theorem acg (a:JT W G x b) (d:JT W G (.BoolOp .Or rest pos) e):JT W G (.BoolOp .Or (x::rest) pos) (bI b e):=λc A h=>V7 (a c A h) (d c A h)
theorem ach (a:JE W G x b):JE W G (.UnaryOp .Not x pos) (Bp b):=λc A h=>Uo h.hc (a c A h)
theorem aci (a:JE W G x b):JE W G (.UnaryOp .USub x pos) (iM b):=λc A h=>FQ (a c A h)
theorem acj (a:JE W G x b) (d:JE W G (.BoolOp .And (z::rest) pos) e):JE W G (.BoolOp .And (x::z::rest) pos) (oM b e):=λc A h=>Up h.hc (a c A h) (d c A h)
theorem jOr (a:JE W G x b) (d:JE W G (.BoolOp .Or (z::rest) pos) e):JE W G (.BoolOp .Or (x::z::rest) pos) (lL b e):=λc A h=>V8 h.hc (a c A h) (d c A h)
theorem jB1 (a:JE W G x b):JE W G (.BoolOp op [x] pos) b:=λc A h=>R2 (a c A h)
theorem A2:JV W G [] aI:=λa a a=>nL
theorem qu (a:aey e=false) (b:JE W G e d) (f:JV W G g i):JV W G (e::g) (bg d i):=λc A h=>jQ a (b c A h) (f c A h)
theorem Mb (a:JV W G b d):JE W G (.Tuple b e pos) (ai d):=λc A h=>Ur h.hc (a c A h)
theorem HF (a:JV W G b d):JE W G (.List b pos) (eg d):=λc A h=>EN h.hc (a c A h)
theorem jHl (a:JV W G b d):JE W G (.List b pos) (aY d):=λc A h=>V9 h.hc (a c A h)
theorem HG:JB W G [] aF:=λa a a=>qn
theorem vY{st a b d}(e:JS W G st b) (f:JB W G a d):JB W G (st::a) (eP b d):=λc A h=>jY (e c A h) (f c A h)
theorem Mc (a:JE W G e b):JS W G (.Return (some e) pos) (aG b):=λc A h=>vK (a c A h)
theorem YA:JS W G (.Return none pos) wh:=λc A h=>R4
theorem jIf (d:JT W G t e) (f:JB W G a g) (i:JB W G b j):JS W G (.If t a b pos) (aB e g j):=λc A h=>sH (d c A h) (f c A h) (i c A h)
theorem YB:JS W G (.Pass pos) aF:=λa a a=>R5
theorem YC (a:nm=name) (b:eH o=true) (d:(cls.all λC=>W.G.attr C name)=true) (e:JE W G o f):JE W G (.Attribute o name pos) (aw cls nm f):=by subst a;exact λc A h=>R6 h.hc b d (e c A h)
theorem WH{x p a args pos d}(e:args.any aey=false) (b:cf G.names x=true) (f:W.G.name x=some (.glob a)) (hk:((W.G.fn a).isSome ||(W.G.init a).isSome)=true) (g:JV W G args d):JE W G (.Call (.Name x p) args [] pos) (az G.call a d):=
 λc A h=>(aL (gh b) λi b=>zk h.hc h.call e (h.at b gi) (h.pl b) f (by rwa [afK] at hk) (g c A h))
theorem Vj{x p a args pos d}(e:args.any aey=false) (b:cf G.names x=true) (f:W.G.name x=some (.glob a)) (hk:((W.G.fn a).isSome ||(W.G.init a).isSome)=true) (g:JV W G args d):JE W G (.Call (.Name x p) args [] pos) (az (bc G.call) a d):=
 λc A h=>(aL (gh b) λi b=>zk h.hc (EU h.hc h.call) e (h.at b gi) (h.pl b) f (by rwa [afK] at hk) (g c A h))
noncomputable def sd (args:List aeD):Bool:=afl args.length (nat_lit 30)
theorem YD (a:nm=name) (b:eH o=true) (d:args.any aey=false) (e:sd args=true) (f:(g.endLine ==pos.line)=true) (i:(j.all λp=>W.G.ck p.1 name ==some p.2)=true) (k:JE W G o l) (m:JV W G args n):JE W G (.Call (.Attribute o name g) args [] pos) (a9 G.call j nm l n):=
 by subst a;exact λc A h=>EO h.hc h.call b d (aei e) f i (k c A h) (m c A h)
theorem WI (a:nm=name) (b:eH o=true) (d:args.any aey=false) (e:sd args=true) (f:(g.endLine ==pos.line)=true) (i:(j.all λp=>W.G.ck p.1 name ==some p.2)=true) (k:JE W G o l) (m:JV W G args n):JE W G (.Call (.Attribute o name g) args [] pos) (a9 (bc G.call) j nm l n):=
 by subst a;exact λc A h=>EO h.hc (EU h.hc h.call) b d (aei e) f i (k c A h) (m c A h)
theorem ack (a:qp i=true) (b:JE W G o d) (e:JE W G i f):JE W G (.Subscript o i pos) (af d f):=λc A h=>FL h.hc a (b c A h) (e c A h)
theorem YE (a:JE W G o b) (d:JE W G u e):JE W G (.Subscript o (.Slice none (some u) none p) pos) (qD b e):=λc A h=>Sq h.hc (a c A h) (d c A h)
theorem YF (a:JE W G o b) (d:JE W G u e):JE W G (.Subscript o (.Slice (some u) none none p) pos) (qE b e):=λc A h=>Su h.hc (a c A h) (d c A h)
theorem acm (d:JE W G a e) (f:JE W G b g):JE W G (.BinOp a .Add b pos) (bb m e g):=λc A h=>UB h.hc (d c A h) (f c A h)
theorem acn (d:JE W G a e) (f:JE W G b g):JE W G (.BinOp a .Mult b pos) (ua e g):=λc A h=>Va h.hc (d c A h) (f c A h)
theorem YG{p x d v args b pos}(e:JP W G.d v p) (f:args.any aey=false) (a:cf G.names x=true) (g:W.G.boot x=true) (i:ahV x=some v) (j:noRef v=true) (k:JV W G args b):JE W G (.Call (.Name x d) args [] pos) (aQ p b):=
 λc A h=>(aL (gh a) λl a=>vC h.hc f (h.at a gi) (h.pl a) g i j (e c A h.hc h.hA) (k c A h))
theorem YH:JP W d (.builtin "len") dB:=λG G G G=>Uz
theorem Vk:JP W d (.type "tuple") bJ:=λG G h G=>QT h
theorem Vl:JP W d (.type "list") gd:=λG G h G=>QU h
theorem Vm:JP W d (.type "list") sM:=λG G h G=>QV h
theorem WJ:JP W d (.type "int") wm:=λG G G G=>EW
theorem Tj:JP W d (.builtin "sorted") nR:=λG G h a=>Qe h a
theorem YI:JP W d (.builtin "all") BA:=λG G h a=>UE h a
theorem YJ:JP W d (.type "str") mW:=λG G G G=>UI
theorem F3:JP W d (.builtin "isinstance") Ar:=λG G G G=>Et
theorem Tn:JP W d (.builtin "list.append") dY:=λG G h G=>P7 h
theorem Tp:JP W d (.builtin "list.extend") nQ:=λG G h G=>Qa h
theorem YK:JP W d (.builtin "list.pop") tP:=λG G h G=>UC h
theorem YL:JP W d (.builtin "dict.get") oN:=λG G G G=>UD
theorem Tq:JP W d (.builtin "str.startswith") zY:=λG G G G=>Qg
theorem WK:JP W d (.builtin "str.join") wt:=λG G G G=>Sz
theorem Vn:JP W d (.builtin "tuple.count") Aq:=λG G G G=>Q1
theorem WL{e f pos x d}(g:aey x=false) (a:cf G.names ("isinstance" :Str)=true) (b:cf G.names ("tuple" :Str)=true) (i:W.G.boot "isinstance" =true) (j:W.G.boot "tuple" =true) (k:JE W G x d):
 JE W G (.Call (.Name "isinstance" e) [x,.Name "tuple" f] [] pos) (sQ d):=λc A h=>(aL (gh a) λl a=>let⟨_,b⟩:=gh b;Q2 h.hc g (h.at a gi) (h.at b gi) i j (k c A h))
variable(W)in
noncomputable def rJ(T:String)(ty:Tr->O->Bool):Prop:=∀ {c:Cx W}{σ:LS}{s:aeg}{α N}{v:O}{val:aec},ty σ.st v=true->SR c σ s α N->VR W.kt α N val v->s.TypeIs val T/\∀ a,val=.ref a->∃ o,s.heap.get? a=some o/\o.dict=none
theorem jMB{T name id a p o b pos args d e}(f:rJ W T a) (g:PlainAttrs T) (i:Slot T name id) (j:typeOf (.builtin id)=pure (.type "method_descriptor")) (k:JP W G.d (.builtin id) p) (l:eH o=true) (m:args.any aey=false) (n:sd args=true) (q:(b.endLine ==pos.line)=true) (r:JE W G o d) (s:JV W G args e):JE W G (.Call (.Attribute o name b) args [] pos) (bT a p d e):=
 λc A h=>We h.hc l m (aei n) q (λt u v=>f t u v) g i j (k c A h.hc h.hA) (r c A h) (s c A h)
theorem C1:rJ W "list" cZ:=λh R G=>QX h R G
theorem tyD:rJ W "dict" n4:=λh R G=>QY h R G
theorem NV:rJ W "str" th:=λh R G=>Sv h R G
theorem tyT:rJ W "tuple" AP:=λh R G=>Sy h R G
end
section
variable{W:Wd}{G:Gm}
noncomputable def m4 (a:List (Str×afm)):Env:={scope:=⟨.function,a,false,false,[]⟩,locals:=0,globals:=0,cells:=[]}
theorem D4 (hk:env.scope.kind=.function)(c:env.scope.names=a):agV b v env=agV b v (m4 a):=by
 obtain⟨⟨_,_,_,_,_⟩⟩:=env
 cases hk
 subst a;rfl
theorem sw_eq (hk:env.scope.kind=.function)(b:env.scope.names=a):ain v t l env=ain v t l (m4 a):=by
 obtain⟨⟨_,_,_,_,_⟩⟩:=env
 cases hk
 subst a;rfl
noncomputable def sT{a:Type}(z:a)(e:aeD)(f:Str->a):a:=match e with
 |.Name x G=>f x
 |_=>z
theorem zv{a:Type}{z y₀:a}{f:Str->a}(h:sT z e f=y₀)(b:y₀≠z):∃ x p,e=.Name x p/\f x=y₀:=by induction e using afB with
 |Name x p=>exact⟨x,p,rfl,h⟩
 |_=>exact absurd h.symm b
noncomputable def F4{a:Type}(z:a)(e:aeD)(f:List aeD->a):a:=match e with
 |.Tuple l G W=>f l
 |_=>z
theorem Qs{a:Type}{z y₀:a}{f:List aeD->a}(h:F4 z e f=y₀)(b:y₀≠z):∃ x k p,e=.Tuple x k p/\f x=y₀:=by induction e using afB with
 |Tuple x k p=>exact⟨x,k,p,rfl,h⟩
 |_=>exact absurd h.symm b
theorem YM (a:G.names[n]?=some (x,.local))(b:G.bA=false):JN W G x (aq n):=λc c h=>zV h.hc (h.ex b).2 (h.at a wQ)
theorem YN (a:G.names[n]?=some (x,.cell)):JN W G x (fc n):=λb b h=>FF h.hc (h.at a HD)
theorem YO (a:G.names[n]?=some (x,.local)) (b:G.bA=false):JG W G (.Name x pos) (aq n):=λc c h=>FE h.hc (h.ex b).2 (h.at a wQ)
theorem YP (a:G.names[n]?=some (x,.cell)):JG W G (.Name x pos) (fc n):=λb b h=>Us h.hc (h.at a HD)
theorem WM:jE W G [] bL:=λa a a=>(bH rfl rfl FH)
theorem Pf (h:aey t=false):agH (t::r) env=(false,aie t env)::agH r env:=by
 induction t using afB<;>first|rfl|exact gr h
theorem Vo (b:aey t=false) (d:JG W G t g) (a:jE W G r e):jE W G (t::r) (aV g e):=λc A h=>by
 refine bU (a c A h) ?_;clear a;intro f i j;rw[Pf b];refine (bH ?_ (congrArg (·+1) i) (EP (d c A h) j));rw[List.findIdx?_cons,if_neg nofun,f];rfl
theorem YQ (b:aem elts.length n=true) (a:jE W G elts d):JG W G (.Tuple elts kk pos) (cz n d):=λc A h=>by
 refine bU (a c A h) ?_;clear a;intro e f g;rw[←aed b,←f];exact Ut h.hc h.hA e g
theorem HH (b:aem elts.length n=true) (a:jE W G elts d):∀ (c:Cx W) A,c8 G c A->nq c A (.Tuple elts kk pos) (cz n d):=λc A h=>by
 refine bU (a c A h) ?_;clear a;intro e f g;rw[←aed b,←f];exact FI h.hc h.hA e g
theorem WN:rI W G [] bL:=λa a a=>FH
theorem Vp (a:JN W G x g) (b:rI W G r d):rI W G (x::r) (aV g d):=λc A h=>EP (Sa (a c A h)) (b c A h)
theorem xI (a:eJ e=false) (b:JN W G x g) (d:JE W G e f):JS W G (.Assign [.Name x i] e p) (aC g f):=λc A h=>FJ a (b c A h) (d c A h)
theorem YR (b:eJ e=false) (d:G.bA=false) (f:agV [.Tuple elts kk a] e (m4 G.names)=pure none) (i:JG W G (.Tuple elts kk a) g) (j:JE W G e k):JS W G (.Assign [.Tuple elts kk a] e p) (aC g k):=
 λc A h=>R8 b (by rw [D4 h.hc.kind (h.ex d).1];exact f) (i c A h) (j c A h)
noncomputable def nS (l:List aeD):List Str:=aeC [] (λe W G=>sT G e λx=>x::G) l
theorem YS (a:eJ e=false) (b:G.bA=false) (d:agV [.Tuple elts kk f] e (m4 G.names)=pure (some (nS elts))) (i:aem (nS elts).length n=true) (j:rI W G (nS elts).reverse g) (k:JE W G e l):JS W G (.Assign [.Tuple elts kk f] e p) (aC (ff n g) l):=
 λc A h=>by rw [←aed i];exact R9 h.hc h.hA a (by rw [D4 h.hc.kind (h.ex b).1];exact d) (j c A h) (k c A h)
theorem YT (a:eJ e=false) (b:JE W G e d):JS W G (.Expr e p) (bq d):=λc A h=>Sb h.hc a (b c A h)
theorem WO (a:nm=name) (b:eJ e=false) (d:(cls.all λC=>W.G.attr C name)=true) (f:JE W G o g) (i:JE W G e j):JS W G (.Assign [.Attribute o name k] e p) (bk cls nm g j):=by subst a;exact λc A h=>QL h.hc b d (f c A h) (i c A h)
theorem aco (a:JE W G e b) (d:JE W G o f) (g:JE W G i j):JS W G (.Assign [.Subscript o i k] e p) (bX b f j):=λc A h=>U1 h.hc (a c A h) (d c A h) (g c A h)
theorem YU (a:JE W G e b) (d:JE W G o f) (g:JE W G i j):JS W G (.Assign [.Subscript o i k] e p) (wN b f j):=λc A h=>S2 h.hc h.hA (a c A h) (d c A h) (g c A h)
theorem YV (d:afy .In b=false) (e:JE W G a f) (g:JE W G b i):JT W G (.Compare a [.In] [b] pos) (xF f i):=λc A h=>U2 h.hc h.hA d (e c A h) (g c A h)
theorem Ts (b:eH o=true) (d:(e.endLine ==f.line)=true) (g:JE W G a i) (j:JE W G o k):
 JT W G (.Compare a [.In] [.Call (.Attribute o "values" e) [] [] f] pos) (sy i k):=λc A h=>Qm h.hc h.hA b d rfl (g c A h) (j c A h)
theorem acp (d:G.bA=false) (e:hJ b=true) (f:JE W G b g) (i:JG W G target j) (k:JB W G body l):JS W G (.For target b body [] pos) (dq j g l):=
 λc A h=>Uy h.hc (h.ex d).2 h.hA e (f c A h) (λM a=>i _ A (h.with a)) (λM a=>k _ A (h.with a))
theorem YW (d:G.bA=false) (f:aey e=false) (a:cf G.names ("range" :Str)=true) (g:W.G.boot "range" =true) (i:JE W G e j) (k:JG W G target l) (m:JB W G body n): JS W G (.For target (.Call (.Name "range" o) [e] [] p) body [] pos) (qH l j n):=
 λc A h=>(gh a).elim λq a=>SD h.hc (h.ex d).2 h.hA f (h.at a gi) g (i c A h) (λM b=>k _ A (h.with b)) (λM b=>m _ A (h.with b))
theorem WQ (d:G.bA=false) (f:aey e=false) (a:cf G.names ("enumerate" :Str)=true) (g:W.G.boot "enumerate" =true) (i:aem elts.length n=true) (j:JE W G e k) (l:jE W G elts m) (o:JB W G body p): JS W G (.For (.Tuple elts kk q) (.Call (.Name "enumerate" r) [e] [] s) body [] pos) (n8 (cz n m) k p):=
 λc A h=>(gh a).elim λt a=>Q9 h.hc (h.ex d).2 h.hA f (h.at a gi) g (j c A h) (λM b=>HH i l _ A (h.with b)) (λM b=>o _ A (h.with b))
theorem YX (f:G.bA=false) (g:aey d=false) (i:aey e=false) (a:cf G.names ("zip" :Str)=true) (j:W.G.boot "zip" =true) (k:aem elts.length n=true) (l:JE W G d c1) (m:JE W G e c2) (o:jE W G elts p) (q:JB W G body r): JS W G (.For (.Tuple elts kk s) (.Call (.Name "zip" t) [d,e] [] u) body [] pos) (qL (cz n p) c1 c2 r):=
 λc A h=>(gh a).elim λv a=>SP h.hc (h.ex f).2 h.hA g i (h.at a gi) j (l c A h) (m c A h) (λM b=>HH k o _ A (h.with b)) (λM b=>q _ A (h.with b))
theorem YY (b:G.bA=false) (d:hJ a=true) (f:G.names[n]?=some (x,.local)) (g:eJ e=false) (i:JE W G a j) (k:JE W G e l):JS W G (.For (.Name x o) a [.Expr e p] [] pos) (wJ n j l):=
 λc A h=>SU h.hc (h.ex b).2 h.hA d (h.at f wQ) g (i c A h) (λM m=>k _ A (h.with m))
theorem WR (a:G.bA=false) (b:JT W G d t) (e:JB W G body f):JS W G (.While d body [] pos) (n7 t f):=
 λc A h=>Q3 h.hc (h.ex a).2 h.hA (b c A h) (e c A h)
theorem ox (a:JE W G e b):JI W G t e (cu b):=λc A h=>UM h.hc h.hA (a c A h)
theorem YZ (b:aey e=false) (a:cf G.names ("range" :Str)=true) (d:W.G.boot "range" =true) (f:JE W G e g):JI W G t (.Call (.Name "range" i) [e] [] pos) (iO g):=λc A h=>(gh a).elim λj a=>UR h.hc h.hA b (h.at a gi) d (f c A h)
theorem Y0 (b:aey e=false) (a:cf G.names ("reversed" :Str)=true) (d:W.G.boot "reversed" =true) (f:JE W G e g):JI W G t (.Call (.Name "reversed" i) [e] [] pos) (ri g):=λc A h=>(gh a).elim λj a=>US h.hc h.hA b (h.at a gi) d (f c A h)
noncomputable abbrev Gm.g5(G:Gm)(sc:aft):Gm:={G with names:=sc.names,bA:=true,code:=none}
theorem Qt{sc:aft}{env:Env}{n:Nat}{x:Str}{k:afm}(h:sc.names[n]?=some (x,k)):∃ a,(agR sc env).names[n]?=some (x,a)/\(a=k\/(k=.free/\a=.cell)):=by
 unfold agR;rw[af1,h];dsimp only[Option.map_some];refine if h:_ then (ay _ (congrArg some (if_pos h)) (.inr ⟨beq_iff_eq.mp (ad9.mp (ad9.mp h).1).1,rfl⟩)) else (ay _ (congrArg some (if_neg h)) (.inl rfl))
theorem c8.g5{c:Cx W}{A}(h:c8 G c A){sc:aft}{cl C a M}(hk:sc.kind=.function) (b:(sc.names.map (·.1)).Nodup) (d:(sc.names.all λp=>cH p.1)=true) (f:∃ o,(C,o)∈M):c8 (G.g5 sc) (c.bA sc cl C a M) A:=
 ⟨h.hc.bA hk b f,h.hA.bA,h.cl,λn x k e=>⟨aeB.mp d (x,k) (aeM e),Qt e⟩,λq=>(by exact gr q),λg q=>by exact aT q⟩
noncomputable def rK (sc:aft) (e:aeD) (t:CT):Bool:=CT.casesOn (motive:=λG=>Bool) t (λn=>sT false e λx=>sc.names[n]? ==some (x,NameKind.local))
 (λn m=>F4 false e λl=>aet (motive:=λG=>Bool) l false λa r=>aet (motive:=λG=>Bool) r false λb r=>j7 false r (sT false a λx=>sT false b λy=>sc.names[n]? ==some (x,NameKind.local)&&sc.names[m]? ==some (y,NameKind.local)&&!(n ==m)))
theorem WS (h:rK sc e t=true):oQ sc e t:=by
 induction t using CT.casesOn with
 |one n=>
  refine be (zv h nofun) ?_;clear h;intro x p G h;subst G;exact .one (beq_iff_eq.mp h)
 |two n m=>
  refine kU (Qs h nofun) ?_;clear h;intro l k p G h;subst G;induction l using aet with
  |nil=>exact aX h
  |cons a r=>induction r using aet with
   |nil=>exact aX h
   |cons b r=>
    refine ae (kK h nofun) ?_;clear h;intro G W;subst G;refine be (zv W nofun) ?_;clear W;intro x o G c;subst G;refine be (zv c nofun) ?_;clear c;intro y q G d;subst G;refine ae (ad9.mp d) λf g=>?_
    refine ae (ad9.mp f) λi j=>?_
    exact .two (beq_iff_eq.mp i) (beq_iff_eq.mp j) (beq_eq_false_iff_ne.mp ((aeK _).mp g))
noncomputable def jH (sc b:List (Str×afm))(a:List (Nat×Nat)):Bool:=
 ((afT sc.length).all λn=>aD true sc[n]? λq=>!(q.2 ==.free) ||a.any λp=>p.1 ==n)&&a.all λp=>aD false sc[p.1]? λq=>aD false b[p.2]? λr=>q.2 ==.free&&q.1 ==r.1
theorem Aw (h:jH sc.names g.names b=true):oP sc g b:=by
 refine ae (ad9.mp h) ?_;clear h;intro G c;refine⟨λn x e=>?_,λp W=>?_⟩
 ·have G:=aeB.mp G n (agF.mpr (aeV.mp e).1);rw[e]at G;refine Y (List.any_eq_true.mp (show (b.any λp=>p.1 ==n)=true from G)) ?_;clear G;intro p W q
  exact⟨p.2,by rw[←beq_iff_eq.mp q];exact W⟩
 ·refine Y (aR (aeB.mp c p W) nofun) ?_;clear c W;intro a i d;obtain⟨x,k⟩:=a;refine Y (aR d nofun) ?_;clear d;intro a j f;obtain⟨y,l⟩:=a;refine ae (ad9.mp f) ?_;clear f;intro m o;obtain rfl:k=.free:=beq_iff_eq.mp m;obtain rfl:x=y:=beq_iff_eq.mp o;exact (gJ x l i j)
noncomputable def rL (sc:aft):Bool:=decide (sc.kind=.function)&&decide ((sc.names.map (·.1)).Nodup)&&(sc.names.all λp=>cH p.1)&&sc.names.all λp=>!(p.2 ==.cell)
theorem WT (h:rL sc=true):sc.kind=.function/\(sc.names.map (·.1)).Nodup/\(sc.names.all λp=>cH p.1)=true/\∀ x∈sc.names,x.2≠.cell:=by
 refine ae (ad9.mp h) ?_;clear h;intro G a;refine ae (ad9.mp G) ?_;clear G;intro W b;refine ae (ad9.mp W) ?_;clear W;intro c d;refine (j5 (of_decide_eq_true c) (of_decide_eq_true d) b (λx e q=>?_))
 have:=aeB.mp a x e;rw[q]at this;exact aX this
variable(W)in
noncomputable def pv(G:Gm)(ifs:List aeD)(ct:Tc):Prop:=∀ (c:Cx W)A,c8 G c A->su c A ifs ct
theorem WU:pv W G [] bo:=λa a a=>Q5
theorem WV (h:JT W G e a):pv W G [e] a:=λc A x=>Q6 (h c A x)
noncomputable def uT(nt:Bool)(a:List aeD):Bool:=aen true a.isEmpty nt
theorem Me{target a g b sc t nt i j k l}(n:G.bA=false) (o:hJ a=true) (hsc:rL sc=true) (p:rK sc target t=true) (r:uT nt b=true) (s:jH sc.names G.names i=true) (u:JI W G target a j) (v:pv W (G.g5 sc) b k) (w:JE W (G.g5 sc) g l){c:Cx W}{A}(h:c8 G c A): vV c A target a g b sc t nt i j k l:=by
 refine j4 (WT hsc) ?_;clear hsc;intro d e m x;refine⟨WS p,d,e,λq=>?_,x,Aw ?_,o,u c A h,λC y M z f=>v _ A ?_,λC y M z f=>w _ A ?_⟩
 ·subst q;exact aim.mp r
 ·rw[show c.scope.names=G.names from (h.ex n).1];exact s
 ·exact c8.g5 h d e m f
 ·exact c8.g5 h d e m f
theorem Y1{target a d b sc pos st t nt e f g i}(j:G.bA=false) (k:hJ a=true) (hsc:rL sc=true) (l:rK sc target t=true) (m:uT nt b=true) (n:jH sc.names G.names e=true) (o:JI W G target a f) (p:pv W (G.g5 sc) b g) (q:JE W (G.g5 sc) d i):
 JE W G (.ListComp d [⟨target,a,b,0⟩] sc pos) (bP st t nt e f g i):=λc A h=>SJ h.hc (h.ex j).2 h.hA (Me j k hsc l m n o p q h)
theorem WW{target a d b sc pos st t nt g i j k x p e l}(f:G.bA=false) (m:ain (.ListComp d [⟨target,a,b,0⟩] sc pos) (some (.Name x e)) p.line (m4 G.names)=pure true) (n:hJ a=true) (hsc:rL sc=true) (o:rK sc target t=true) (q:uT nt b=true) (r:jH sc.names G.names g=true) (s:JI W G target a i) (u:pv W (G.g5 sc) b j) (v:JE W (G.g5 sc) d k) (w:JG W G (.Name x e) l): JS W G (.Assign [.Name x e] (.ListComp d [⟨target,a,b,0⟩] sc pos) p) (k9 st t nt g i j k l):=
 λc A h=>SK h.hc (h.ex f).2 h.hA (Me f n hsc o q r s u v h) (by rw [sw_eq h.hc.kind (h.ex f).1];exact m) (λM y=>w _ A (h.with y))
end
section
variable{W:Wd}{G:Gm}
variable (W)in
noncomputable def JD (G:Gm)(keys:List (Option aeD))(vals:List aeD)(xs:List Str)(ces:eb):Prop:=∀ (c:Cx W)A,c8 G c A->tZ c A keys vals xs ces
theorem Y2:JD W G [] [] [] aI:=λa a a=>Yq
theorem WX (d:b=x) (e:afg x=true) (f:JE W G g i) (j:JD W G k vs l m):JD W G (some (.Constant (.str x) kk n)::k) (g::vs) (b::l) (bg i m):=
 by subst d;exact λc A h=>Wx (sZ (a:=.str b) (by show aN none (afg b) (some (O.str b))=_;rw[e];rfl)) (f c A h) (j c A h)
noncomputable def A3 (a:List (Option aeD))(vals:List aeD)(b:List Str):Bool:=a.all (·.isSome)&&aem a.length vals.length&&!a.isEmpty&&aeQ a.length 15&&LQ b
theorem Y3 (e:G.bA=false) (a:A3 b vals d=true) (f:JD W G b vals d g):JE W G (.Dict b vals pos) (hV d g):=λc A h=>by
 unfold A3 at a;simp only[ae4,aeK,List.isEmpty_eq_false_iff]at a;exact SX h.hc (h.ex e).2 a.1.1.1.1 (aed a.1.1.1.2) a.1.1.2 (aei a.1.2) a.2 λM i=>f _ A (h.with i)
theorem WY:JE W G (.Dict [] [] pos) er:=λc A h=>Rh h.hc
theorem Tt (f:aey d=false) (g:aey e=false) (a:cf G.names ("dict" :Str)=true) (b:cf G.names ("zip" :Str)=true) (i:W.G.boot "dict" =true) (j:W.G.boot "zip" =true)
 (k:JE W G d c1) (l:JE W G e c2):JE W G (.Call (.Name "dict" n) [.Call (.Name "zip" o) [d,e] [] p] [] q) (pX c1 c2):=λc A h=>(gh a).elim λm a=>(gh b).elim λm b=>PR h.hc h.hA f g (h.at a gi) (h.at b gi) i j (k c A h) (l c A h)
theorem WZ (b:args.any aey=false) (d:(e.all λa=>(W.G.fn a).isSome)=true) (f:JE W G (.Name x p) g) (i:JV W G args j):JE W G (.Call (.Name x p) args [] pos) (og G.call e g j):=
 λc A h=>Ra h.hc h.call b d (f c A h) (i c A h)
theorem W1 (a:nm=name) (b:eH o=true) (d:(e.all λp=>tB W.K p.1 name p.2)=true) (f:JE W G o g):JE W G (.Attribute o name pos) (vW e nm g):=by subst a;exact λc A h=>Rb h.hc b d (f c A h)
noncomputable def ub (sc:aft):Bool:=decide ((sc.names.map (·.1)).Nodup)
theorem acq{i id P d e x sc body pos q b}{a:Arguments}(j:G.bA=false) (k:jH sc.names G.names d=true) (l:ub sc=true) (f:G.code=some (b,q)) (m:jt W.K b P=true) (n:(q++"<lambda>" :Str)=e) (o:ke W.K=true) (p:W.kt.bY id=some ⟨x,.expr body,sc⟩) (g:a.defaults=[]/\a.kw_defaults=[]) (r:∀ name s t u w y v,agC (kla_fn name s a body sc t u w y) ⟨[v],[]⟩=pure [(x,v)]):JE W G (.Lambda a body sc pos) (mH i P e id d):=λc A h=>by
 refine ae (h.cd _ f) ?_;clear f;intro z B;exact UY h.hc (Aw (by rw [show c.scope.names=G.names from (h.ex j).1];exact k)) (of_decide_eq_true l) ⟨b,z,m⟩ (by rw [B];exact n) o p (by refine ae g ?_;clear g;intro C D;obtain ⟨_,_,_,_,E,_,F⟩:=a;cases C;cases D;rfl) r
noncomputable def wR (a:List (Str×afm))(x:Str):Bool:=!(a.lookup x ==some .globalExplicit)
theorem acr{l id P e f x name sc body pos q b g}{a:Arguments}(i:G.bA=false) (m:jH sc.names G.names e=true) (n:ub sc=true) (j:G.code=some (b,q)) (o:jt W.K b P=true) (d:wR G.names name=true) (p:(q++name:Str)=f) (r:ke W.K=true) (s:W.kt.bY id=some ⟨x,.stmts body,sc⟩) (k:a.defaults=[]/\a.kw_defaults=[]) (t:∀ env,annTrees a none env=[]) (u:∀ name w y z B C D v,agC (fnX name w a body sc y .none .none z B none C D) ⟨[v],[]⟩=pure [(x,v)]) (E:JN W G name g):JS W G (.FunctionDef name a body [] none [] sc none name pos) (tY l P f id e g):=λc A h=>by
 refine ae (h.cd _ j) ?_;clear j;intro F H;have hk:c.env.kindOf name=G.names.lookup name:=by unfold Env.kindOf;rw [show c.env.scope.names=G.names from (h.ex i).1]
 refine UZ h.hc (Aw (by rw [show c.scope.names=G.names from (h.ex i).1];exact m)) (of_decide_eq_true n) (ay b F o) ?_ r s k.1 k.2 (t _) u (E c A h)
 unfold qualnameIn;rw [hk,H];unfold wR at d;rw [aeK] at d;rw [if_neg (by rw [d];exact aeP)]
 exact p
theorem W2 (H:mZ W.K C b) (d:sS W b) (hk:keepIn W.K (.ref C)=true) (e:args.any aey=false) (a:cf G.names x=true) (f:W.G.name x=some (.glob C)) (g:JV W G args i):
 JS W G (.Raise (some (.Call (.Name x j) args [] k)) none pos) (cw C i):=λc A h=>(gh a).elim λl a=>Rj h.hc h.hA H d hk e (h.at a gi) (h.pl a) f (g c A h)
noncomputable def HI(fd:aJ)(x y:Str):Bool:=x ==y&&!eM fd.scope x
noncomputable def GI (fd:aJ)(E:aM):Bool:=aem E.cells.length (jR fd.scope).length&&(afT (jR fd.scope).length).all λi=>aD true (jR fd.scope)[i]? λx=>aD false E.cells[i]? λq=>q.2 ==qB fd.params x&&aD false fd.scope.names[q.1]? λy=>HI fd x y.1
noncomputable def Y4(fd:aJ)(E:aM):Bool:=(afT fd.params.length).all λi=>aD true fd.params[i]? λx=>aD false fd.scope.names[i]? λy=>x ==y.1&&(!(E.flags[i]? ==some true) ||y.2 ==.local)
noncomputable def xJ (fd:aJ)(E:aM):Bool:=aem E.n fd.params.length&&Y4 fd E&&aeQ E.flags.length fd.params.length&&decide fd.params.Nodup&&decide (jR fd.scope).Nodup&&GI fd E&&fd.scope.names.all λp=>cH p.1
theorem wU (m:E.gV=fd.dh) (b:xJ fd E=true) (o:∀ call d,JB W ⟨fd.scope.names,call,d,fd.code,false⟩ fd.body (E.body call)):k7 W fd E:=by
 unfold xJ at b;simp only[ae4]at b;refine ae b ?_;clear b;intro a r;obtain ⟨⟨⟨⟨⟨s,t⟩,u⟩,v⟩,w⟩,f⟩:=a;refine ⟨aed s,m,λi x e=>?_,aei u,of_decide_eq_true v,of_decide_eq_true w,?_,λcall d z c A B C D j F=>?_⟩
 ·have q:=aeB.mp t i (agF.mpr (aeV.mp e).1);rw[e]at q;refine Y (aR (show aD false fd.scope.names[i]? (λy=>x ==y.1&&(!(E.flags[i]? ==some true) ||y.2 ==.local))=true from q) nofun) ?_;clear q;intro a g q;obtain ⟨y,k⟩:=a
  refine ae (ad9.mp q) λh G=>?_
  rw[←beq_iff_eq.mp (show (x ==y)=true from h)]at g;refine (ay k g (λH=>?_))
  rw[H]at G;exact beq_iff_eq.mp (show (k ==NameKind.local)=true from G)
 ·unfold GI at f;rw[ae4]at f;refine ⟨aed f.1,λi x e=>?_⟩
  have q:=aeB.mp f.2 i (agF.mpr (aeV.mp e).1);rw[e]at q;refine Y (aR (show aD false E.cells[i]? (λq=>q.2 ==qB fd.params x&&aD false fd.scope.names[q.1]? λy=>HI fd x y.1)=true from q) nofun) ?_;clear q;intro a g q;obtain ⟨n,p⟩:=a
  refine ae (ad9.mp q) ?_;clear q;intro h G;refine Y (aR G nofun) ?_;clear G;intro a l G;obtain ⟨y,k⟩:=a;refine ae (ad9.mp (show (x ==y&&!eM fd.scope x)=true from G)) ?_;clear G;intro I L;rw[←beq_iff_eq.mp I]at l;exact (bB n k (by rw[g,beq_iff_eq.mp (show (p ==qB fd.params x)=true from h)]) l ((aeK _).mp L))
 ·refine o call d c A ⟨B,C,z,λn x k e=>(wb (aeB.mp r (x,k) (aeM e)) k (by rw[j];exact e) (.inl rfl)),λM=>⟨by rw[j],D⟩,F⟩
noncomputable def rk (D:mS)(a:Nat):Bool:=D.scope.names[a]? ==some (D.param,.local)&&decide ((D.scope.names.map (·.1)).Nodup)&&(D.scope.names.all λp=>!(p.2 ==.cell))&&!D.scope.isCoroutine&&!D.scope.isGenerator&&decide (D.scope.kind=.function)&&D.scope.names.all λp=>cH p.1
theorem F5(h:rk D a=true):xD D a/\(D.scope.names.all λp=>cH p.1)=true:=by
 unfold rk at h;simp only[ae4,aeK]at h;refine ae h ?_;clear h;intro G W;obtain⟨⟨⟨⟨⟨b,c⟩,d⟩,e⟩,f⟩,g⟩:=G;exact⟨⟨beq_iff_eq.mp b,of_decide_eq_true c,λx i q=>(by have:=aeB.mp d x i;rw[q]at this;exact aX this),e,f,of_decide_eq_true g⟩,W⟩
theorem acs{b:Call->Ev}(h:rk ⟨x,.expr body,sc⟩ a=true) (f:∀ call d,JE W ⟨sc.names,call,d,none,false⟩ body (b call)):gN W ⟨x,.expr body,sc⟩ (.e a b):=by
 refine ae (F5 h) ?_;clear h;intro g i;exact .e g rfl λcall d j c A l m o G=>f call d c A ⟨l,m,j,λn x k e=>(wb (aeB.mp i (x,k) (aeM e)) k (by rw[G];exact e) (.inl rfl)),λp=>⟨by rw[G],o⟩,λp q=>by exact aT q⟩
theorem acu{b:Call->Sc}(h:rk ⟨x,.stmts body,sc⟩ a=true) (f:∀ call d,JB W ⟨sc.names,call,d,none,false⟩ body (b call)):gN W ⟨x,.stmts body,sc⟩ (.s a b):=by
 refine ae (F5 h) ?_;clear h;intro g i;exact .s g rfl λcall d j c A l m o G=>f call d c A ⟨l,m,j,λn x k e=>(wb (aeB.mp i (x,k) (aeM e)) k (by rw[G];exact e) (.inl rfl)),λp=>⟨by rw[G],o⟩,λp q=>by exact aT q⟩
end
section
variable{W:Wd}{c:Cx W}{A:aeX}{d:Nat}
noncomputable def Ax:Prim:=λl d k=>hU l λa=>dZ .no d.st a λA o=>ix .no o λc=>aN .no (and (keysOk c) (aeQ c.length (nat_lit 500))) (k (.hl (ot c)) d)
theorem Qu(h:Value.isStrOf x v=true):∃ t,v=.str x t:=by
 induction v using aff with
 |str y t=>exact⟨t,by rw[show y=x from beq_iff_eq.mp h]⟩
 |_=>exact aX h
theorem Rl (h:aU T α N kvs a):keysOk a=true->∀ vs:List aec,vs.length=kvs.length->(∀ (j:Nat) (v:aec),vs[j]?=some v->∃ k x,kvs[j]?=some (k,x)/\(ae2 prog w).is k v=true)->ah T α N vs (ot a):=
 aU.ind (P:=λkvs a=>keysOk a=true->∀ vs:List aec,vs.length=kvs.length->(∀ (j:Nat) (v:aec),vs[j]?=some v->∃ k x,kvs[j]?=some (k,x)/\(ae2 prog w).is k v=true)->ah T α N vs (ot a))
  (λA vs c A=>by rw[age.mp c];exact .nil)
  (fun{x w g i l}m r W d vs c h=>by
   induction vs using aet with
   |nil=>cases c
   |cons v vs=>
    refine ae (ad9.mp d) ?_;clear d;intro b C2;refine be (h 0 v rfl) λk y e q=>?_
    cases aea e
    refine aL (Qu q) ?_;clear q;intro t f;subst f;exact .cons (.str t b) (W C2 vs (afR c) λj v e=>h (j+1) v e)) h
theorem Rm (f:ak c) (p:aP c d A):dQ c A (.type "list") Ax:=by
 intro qd σ qe qf h b s q r qg R u vals x y qh z;refine iw x y h b λa v B h=>?_
 refine l9 R B h b λqi a o ao C q1 g D i h=>?_
 refine Y (l5 h b) ?_;clear h D u;intro E e h;subst e;refine ae (aS h b) ?_;clear h b;intro nB h;refine ae (ad9.mp nB) ?_;clear nB;intro F G;refine Y i.inv ?_;clear i;intro kvs j k;refine Y R.fr λqj qk hm=>?_
 refine kI j ?_;clear j;intro H I L M P Q S;have V:s.heap.DictAt (ai8 W.prog W.w) a _ I:=(vp o H (R.get g) L M P Q S);have X:=k.len0;have Z:E.length<=500:=aei G;refine kdl_call (kdl_dict (knd:=ai8 W.prog W.w) (R.hi _ (aef _ g))) p.handled V (aev (aev (af8 X) (aev Z (by decide))) AN) λh' tk acc c' hk l m=>?_
 have n:=Rl (T:=W.kt) (α:=q) (N:=r) (prog:=W.prog) (w:=W.w) k F acc.toList (by rw[aiK];exact m.1) λqa v qb=>m.2 qa v (by rw[←Array.getElem?_toList];exact qb)
 refine ae (R.newList f hk (by rw[aiw];exact l) (t:=tk) n) ?_;clear R f hk l n;intro e C;obtain⟨N',R',qc,gW⟩:=e
 exact z _ _ _ _ _ _ h R' qc gW
theorem Vq:JP W d (.type "list") Ax:=λc c h A=>Rm h A
noncomputable def xK (a b:Ev):Tc:=λc k=>a c λd c=>b c λA c=>aeT (aN .no (iQ c.st (nat_lit 20) d) (aD .no (eD c.st A) λl=>aN .no (gv (iQ c.st (nat_lit 20)) l) (join (k true c) (k false c)))) (λt=>k t c) (uA c.st d A)
theorem Vr (f:ak c) (o:aP c d A) (x:afy .In b=false) (z:aE c A a B) (C:aE c A b D):dz c A (.Compare a [.In] [b] pos) (xK B D):=by
 intro F qa y h W s G N E R p qb j;refine ahq ?_ x;refine z F _ y h W s G N E R p _ λH dj tQ dk cK bZ h I g L=>?_
 refine C _ _ _ h W _ _ _ _ I (p.step g.kp) _ λM P rf d0 eh dJ h e i k=>?_
 have l:=L.mono i.ge;induction m:uA P.st H M using aer with
 |some qc=>
  dsimp only at h;rw [m] at h;exact Ap (op:=.In) f o f.g.tok e l k m λtk=>afN (j _ _ _ _ _ h e.toks (g.trans i))
 |none=>
  dsimp only at h;rw [m] at h;refine ae (aS h W) ?_;clear h;intro r h;refine Y (aR h W) ?_;clear h;intro qd t h;refine ae (aS h W) ?_;clear h;intro u h;refine ae (mc h W) ?_;clear h W;intro Q S;refine aL (nY f.g.tok 20 _ r) ?_;clear r;intro T v;refine bU (v.reads e l) ?_;clear v l;intro n V da';obtain⟨as,X⟩:=n;refine aL (Gq (nY f.g.tok 20) u) ?_;clear f u;intro Z q;have hu:=Ef o;refine bU ((Uh t q).reads e k) ?_;clear t q k;intro n w db';obtain⟨bs,rb⟩:=n;simp only [ah4] at w;simp only [ais] at db';refine SeqAt.in_list_reads rb X w V (by omega) ?_
  induction (Z.any λy=>afJ y T) using aee with
  |true=>exact afN (j _ _ _ _ _ Q e.toks (g.trans i))
  |false=>exact afN (j _ _ _ _ _ S e.toks (g.trans i))
theorem Y5 (e:afy .In b=false) (f:JE W G a g) (i:JE W G b j):JT W G (.Compare a [.In] [b] pos) (xK g j):=λc A h=>Vr h.hc h.hA e (f c A h) (i c A h)
noncomputable def mL{α e:Type}(f:α->e->Bool) (l:List α):List e->Bool:=aeC (motive:=λc=>List e->Bool) (λr=>r.isEmpty) (λa c d r=>aet (motive:=λc=>Bool) r false λb r=>and (f a b) (d r)) l
theorem me{α e:Type}{f:α->e->Bool}{a:α}{l:List α}{r:List e}(h:mL f (a::l) r=true):∃ b g,r=b::g/\f a b=true/\mL f l g=true:=by
 induction r using aet with
 |nil=>exact aX h
 |cons b r=>exact (gJ b r rfl (ad9.mp h))
theorem sU{α a:Type}{f:α->a->Bool}{r:List a}(h:mL f [] r=true):r=[]:=aim.mp h
noncomputable def mI (π:List Nat) (j i:Nat):Bool:=aD false (nr π j) λc=>aem c i
theorem A4 (h:mI π j i=true):π[j]?=some i:=by
 refine Y (aR h nofun) ?_;clear h;intro c e h;rw[←sI,e,aed h]
noncomputable def mC (π:List Nat) (p q:Nat×Nat):Bool:=and (aem p.1 q.1) (mI π p.2 q.2)
noncomputable def mA1 (π:List Nat) (e:O->O->Bool) (a b:O):Bool:=O.casesOn (motive_1:=λc=>Bool) a (j1 false b true) (λx=>i8 false b λy=>x ==y) (λx=>dR false b λy=>decide (x=y)) (λx=>afD false b λy=>seq x y) (λl=>cD false b λr=>mL e l r) (λl=>lp false b λr=>mL e l r) (λc c=>false)
 (λj=>jf false b λi=>mI π j i) (λx=>qs false b λy=>aem x y) (λf k=>iK false b λd A=>and (aem f d) (aem k A)) (λf x=>vT false b λg y=>and (aem f g) (e x y)) (λi W=>wc false b λj h=>and (aem i j) (mL (mC π) W h)) b.sure (λc=>false)
noncomputable def mA (π:List Nat) (n:Nat):O->O->Bool:=afX (motive:=λc=>O->O->Bool) (λc c=>false) (λc d=>mA1 π d) n
theorem GJ{π:List Nat}{n c:Nat}{a x:O}(h:mA π n a (.may c x)=true):False:=by
 induction n using aez with
 |zero=>exact aX h
 |succ n=>induction a using O.casesOn<;>exact aX h
theorem Ac(h:mA π n a b=true):a.sure=true:=by
 induction n using aez with
 |zero=>exact aX h
 |succ n=>induction a using O.casesOn<;>first|rfl|exact aX h
structure rM(π:List Nat)(α lb:List aep)(N bZ:Led):Prop where
 at_:∀ (j i:Nat)a,π[j]?=some i->α[i]?=some a->lb[j]?=some a
 sub:∀ a∈lb,a∈α
 led:∀ p∈N,p.1∉α->p∈bZ
theorem VR.free (hl:∀ p∈N,p.1∉α->p∈g/\p.1∉j) (m:∀ f k,Eng.below 0 (T.θ f k)=true) (h:VR T α N v av):Eng.below 0 av=true->VR T j g v av:=
 VR.rec (motive_1:=λv av c=>Eng.below 0 av=true->VR T j g v av) (motive_2:=λn l c=>belows 0 l=true->ah T j g n l) (λc=>.none) (λb c=>.bool b) (λi t c=>.int i t) (λt o c=>.str t o) (λd A W s c r b=>.tup (hl _ d A).1 (hl _ d A).2 W s (r (pQ▸b))) (λd c r b=>.tupK d (r (pQ▸b))) (λd A c r b=>.hl (hl _ d A).1 (hl _ d A).2 (r (zz▸b))) (λe b=>absurd (aei b) (aiG _)) (λa c=>.glob a) (fun{_ f k}_ q b=>.ty (q (m f k))) (λd A c r b=>.ck (hl _ d A).1 (hl _ d A).2 (r b)) (λc c c c b=>absurd b aeP) (λh c=>.bR h) (λd A W c=>.fk (hl _ d A).1 (hl _ d A).2 W) (λc=>.nil) (λc c q r b=>.cons (q (ad9.mp b).1) (r (ad9.mp b).2)) (λe c c q r b=>.yes e (q (ad9.mp b).1) (r (ad9.mp b).2)) (λe c r b=>.no e (r (ad9.mp b).2)) h
theorem Rn:∀ {r:List (Nat×Nat)}{j:Nat},mL (mC π) l r=true->lk n l=some j->∃ i,lk n r=some i/\π[j]?=some i:=by
 induction l with
 |nil=>exact λf e=>nomatch e
 |cons p l d=>
  intro r j h e;refine aH (me h) ?_;clear h;intro q g A c W;subst A;refine ae (ad9.mp c) ?_;clear c;intro a b;rw[eC]at e ⊢;rw[←aed a];by_cases z:n=p.1
  ·rw[if_pos z]at e ⊢;exact (ay _ rfl (aea e▸A4 b))
  ·rw[if_neg z]at e ⊢;exact d W e
theorem vZ (e:∀ {a b:O}{v:aec},mA π n a b=true->VR T α N v b->VR T f g v a):∀ {r:List O}{vs:List aec},mL (mA π n) l r=true->ah T α N vs r->ah T f g vs l:=by
 induction l with
 |nil=>intro r vs h d;rw[sU h]at d;rw[d.nil_inv];exact .nil
 |cons a l W=>
  intro r vs h d;refine aH (me h) ?_;clear h;intro b k i A j;subst i;rcases d.wu with⟨_,w,m,rfl,x,y⟩|⟨c,z,rfl,_⟩
  ·exact .cons (e A x) (W j y)
  ·exact (GJ A).elim
theorem tF (F:rM π α E N L) (M:∀ v a,VR T α N v a->ahS v=true) (P:∀ f k,Eng.below 0 (T.θ f k)=true):∀ {a b:O}{v:aec},mA π n a b=true->VR T α N v b->VR T E L v a:=by
 induction n with
 |zero=>exact λh=>nomatch h
 |succ n C=>
  intro a b v h A;have u:∀ {a},a∉α->a∉E:=λq z=>q (F.sub _ z)
  induction a using O.casesOn with
  |bR=>exact .bR (M _ _ A)
  |none=>
   refine ae (nK h nofun) ?_;intro c u_;subst c;rw[show v=.none from A.inv];exact .none
  |bool x=>
   refine Y (pR h nofun) ?_;clear h;intro y c h;subst c;rw[show v=.bool y from A.inv,beq_iff_eq.mp h];exact .bool _
  |int x=>
   refine Y (jT h nofun) ?_;clear h;intro y c h;subst c;refine aL A.inv ?_;intro t c;subst c;rw[of_decide_eq_true h];exact .int _ _
  |str x=>
   refine Y (gD h nofun) ?_;clear h;intro y c h;subst c;refine Y A.inv ?_;intro t c Q;subst c;rw[gG.mp h];exact .str t Q
  |glob x=>
   refine Y (vq h nofun) ?_;clear h;intro y c h;subst c;rw[show v=.ref y from A.inv,aed h];exact .glob _
  |tup l=>
   refine Y (dO h nofun) ?_;clear h;intro r c h;subst c;rcases A.inv with⟨a,o,D,n,rfl,g,W,w,R,B⟩|⟨a,D,n,sl,rfl,g,B⟩
   ·exact .tup (F.led _ g W) (u W) w R (vZ C h B)
   ·exact .tupK g (vZ C h B)
  |hl l=>
   refine Y (sq h nofun) ?_;clear h;intro r c h;subst c;refine gC A.inv ?_;intro a D n c g W B;subst c;exact .hl (F.led _ g W) (u W) (vZ C h B)
  |ref j=>
   refine Y (i0 h nofun) ?_;clear h;intro i c h;subst c;refine Y A.inv ?_;intro a c q;subst c;exact .ref (F.at_ _ _ _ (A4 h) q)
  |ty f k=>
   refine be (jW h nofun) ?_;clear h;intro f' k' c h;subst c;refine ae (ad9.mp h) λs m=>?_
   rw[aed s,aed m];exact A.free (λp s m=>⟨F.led p s m,u m⟩) P rfl
  |ck f x=>
   refine be (Ed h nofun) ?_;clear h;intro qa y c h;subst c;refine ae (ad9.mp h) λs m=>?_
   refine eI A.inv ?_;intro a qb c g W w;subst c;rw[aed s];exact .ck (F.led _ g W) (u W) (C m w)
  |bY i aK=>
   refine be (zB h nofun) ?_;clear h;intro j ad6 c h;subst c;refine ae (ad9.mp h) λs m=>?_
   refine OV A.inv ?_;clear A;intro a o d c;subst c;intro g W w S V X Z e4 e5 e6 pn G;obtain⟨c',oc,D,t,g1,g2,H,g4⟩:=pn;rw[aed s];refine .bY (F.led _ g W) (u W) w (rZ S V X Z e4 e5 e6 (pP c' oc D t g1 (F.led _ g2 H) (u H) g4) (λn j e=>?_))
   refine Y (Rn m e) ?_;clear m e;intro i' I z2;refine cg (G n i' I) ?_;clear G I;intro x k a w1 w2 w3;exact⟨x,k,a,w1,w2,F.at_ _ _ _ z2 w3⟩
  |may Ct u2_=>exact aX h
  |fk Ct=>exact aX h
theorem Tu:∀ {r:List O},mL (mA π n) l r=true->aeS l=true:=by
 induction l with
 |nil=>exact λe=>rfl
 |cons a l c=> intro r h;refine aH (me h) ?_;clear h;intro b f d A W;subst d;exact ad9.mpr ⟨Ac A,c W⟩
section
variable{T:KT}{π:List Nat}{α lb:List aep}{N bZ:Led}
theorem GK (F:rM π α lb N bZ) (b:∀ v a,VR T α N v a->ahS v=true) (e:∀ f k,Eng.below 0 (T.θ f k)=true) (h:mL (mA π n) l r=true) (g:ah T α N vs r):ah T lb bZ vs l:=vZ (tF F b e) h g
noncomputable def mE (π:List Nat) (n:Nat) (l r:List (Str×O)):Bool:=mL (λp q=>and (seq p.1 q.1) (mA π n p.2 q.2)) l r
theorem W3 (F:rM π α lb N bZ) (b:∀ v a,VR T α N v a->ahS v=true) (e:∀ f k,Eng.below 0 (T.θ f k)=true):∀ {r:List (Str×O)}{vs:List (Str×aec)},mE π n l r=true->aU T α N vs r->aU T lb bZ vs l:=by
 induction l with
 |nil=>intro r vs h c;rw[sU h]at c;rw[c.nil_inv];exact .nil
 |cons p l W=> intro r vs h c;refine aH (me h) ?_;clear h;intro q s d A g;subst d;refine ae (ad9.mp A) ?_;clear A;intro i j;refine aH (aU.cj (x:=q.1) (av:=q.2) c) ?_;clear c;intro v w d m o;subst d;rw[←gG.mp i];exact .cons (tF F b e j m) (W g o)
theorem W4 (F:rM π α lb N bZ) (b:∀ v a,VR T α N v a->ahS v=true) (e:∀ f k,Eng.below 0 (T.θ f k)=true):∀ {r:List (Str×O)}{vs:List DictEntry},mE π n l r=true->bM P T α N vs r->bM P T lb bZ vs l:=by
 induction l with
 |nil=>intro r vs h c;rw[sU h]at c;rw[c.nil_inv];exact .nil
 |cons p l W=> intro r vs h c;refine aH (me h) ?_;clear h;intro q s d A g;subst d;refine ae (ad9.mp A) ?_;clear A;intro i j;refine cg (bM.cj (x:=q.1) (av:=q.2) c) ?_;clear c;intro t v w d m o;subst d;rw[←gG.mp i];exact .cons (tF F b e j m) (W g o)
end
noncomputable def Y6 (π:List Nat) (j:Nat):Bool:=aij (motive:=λc=>Bool) j false λk=>aD false (nr π k) λi=>mI π (k+1) (afb i)
noncomputable def mO (π:List Nat) (n:Nat) (j:Nat) (e o:AO):Bool:=AO.casesOn (motive:=λc=>Bool) e (λl=>gF false o λr=>mL (mA π n) l r) (λl=>ix false o λr=>mE π n l r) (λC l=>mi false o λD r=>and (and (aem C D) (mE π n l r)) (Y6 π j)) (Ah false o true)
 (λv=>aD false v λa=>p8 false o λw=>aD false w λb=>mA π n a b) (λc=>sD false o λc=>true) true (λc c=>false)
noncomputable def lT (π:List Nat) (n:Nat) (st:Tr) (l:List AO):Nat->Bool:=aeC (motive:=λc=>Nat->Bool) (λc=>true) (λd c A j=>aD false (nr π j) λi=>aD false (st.get i) λo=>and (mO π n j d o) (A (afb j))) l
theorem Ay{π:List Nat}{st:Tr}{l:List AO}:∀ {j:Nat},lT π n st l j=true->∀ (k:Nat) b,l[k]?=some b->∃ i o,π[j+k]?=some i/\st.get i=some o/\mO π n (j+k) b o=true:=by
 induction l with
 |nil=>exact λg k b e=>nomatch e
 |cons a l c=> intro j h k b e;refine Y (aR h nofun) ?_;clear h;intro i d h;refine Y (aR h nofun) ?_;clear h;intro o A h;refine ae (ad9.mp h) ?_;clear h;intro W f;induction k using aez with
  |zero=>exact⟨i,o,sI.symm.trans d,A,aea e▸W⟩
  |succ k=>rw[show j+(k+1)=j+1+k from (ag5 _ _).symm];exact c f k b e
noncomputable def gn (l:List AO)(loc:List (Nat×O)):LS:=⟨loc,[],(zW ⟨[],[],lJ,nat_lit 0,nat_lit 0,[]⟩ l).st,l.length,l.length,[]⟩
theorem VR.Mf (h:VR T α N v av):(∀ a,v≠.ref a)->∀ {g i f},VR T g i f av->∀ {j k},VR T j k f av:=
 VR.rec (motive_1:=λv av c=>(∀ a,v≠.ref a)->∀ {g i f},VR T g i f av->∀ {j k},VR T j k f av) (motive_2:=λc c c=>True) (λc c c f h c c=>(show f=.none from h.inv)▸.none) (λb c c c f h c c=>(show f=.bool b from h.inv)▸.bool b) (λc c c c c c h c c=>h.inv.elim λt e=>e▸.int _ t) (λc c c c c c h c c=>h.inv.elim λt e=>e.1▸.str t e.2) (λc c c c c c n=>absurd rfl (n _)) (λc c c n=>absurd rfl (n _)) (λc c c c n=>absurd rfl (n _)) (λc n=>absurd rfl (n _)) (λc n=>absurd rfl (n _)) (λc d n c c c h c c=>.ty (d n h.inv)) (λc c c c n=>absurd rfl (n _)) (λc c c c n=>absurd rfl (n _)) (λc c c c c h c c=>.bR h.inv) (λc c c n=>absurd rfl (n _)) trivial (λc c c c=>trivial) (λc c c c c=>trivial) (λc c c=>trivial) h
noncomputable def rN (v:aec) (a:O):O:=aff (motive:=λc=>O) v a a a (λc=>a) (λc c=>a) (λc c=>a) (λc c=>a) (λc c=>a) (λc=>a) (λc=>a) .glob
theorem GN(v:aec):(∃ x,v=.ref x)\/((∀ x,v≠.ref x)/\∀ a,rN v a=a):=by induction v using aff with
 |ref x=>exact .inl ⟨x,rfl⟩
 |_=>exact .inr ⟨nofun,λc=>rfl⟩
theorem W5 (h:VR T α N v a):VR T b f v (rN v a):=by
 rcases GN v with⟨x,rfl⟩|⟨n,e⟩
 ·exact .glob _
 ·rw[e];exact h.Mf n h
theorem W6 (h:VR T α N v a)(h':VR T j k b (rN v a))(f:VR T g i v a):VR T g i b a:=by
 rcases GN v with⟨x,rfl⟩|⟨n,e⟩
 ·rw[show b=.ref x from h'.inv];exact f
 ·exact h.Mf n (e a▸h')
theorem Ro (h:l.length<=1024):Wf 10 (gn l loc).st/\∀ i,i<l.length->(gn l loc).st.get i=l[i]?:=by
 obtain ⟨_,_,_,_,_,w,g⟩:=y9 l ⟨[],[],lJ,0,0,[]⟩ ym ((ag8 l.length).symm▸h);exact ⟨w,λi c=>(g i ((ag8 l.length).symm▸c)).trans (if_neg (aiG _))⟩
theorem GO{f:Nat->O->O}:lk n (l.map λp=>(p.1,f p.1 p.2))=(lk n l).map (f n):=by
 induction l with
 |nil=>rfl
 |cons p l c=>
  rw[aeL,eC,eC];by_cases q:n=p.1
  ·rw[if_pos q,if_pos q,q];rfl
  ·rw[if_neg q,if_neg q];exact c
theorem Qv{m:Str->Option aec}(h:ek W sc loc α N m):∃ q:List (Nat×O),
  (∀ b g,ek W sc q b g m)/\∀ b g i,ek W sc q b g i->(sc.names.map (·.1)).Nodup->∀ {j l},(∀ v a,VR W.kt α N v a->VR W.kt j l v a)->ek W sc loc j l i:=by
 have r:∀ (n:Nat) x k v,sc.names[n]?=some (x,k)->m x=some v->aD agc sc.names[n]? (λp:Str×afm=>(m p.1).getD .none)=v:=λn x k v B C=>by
  rw[B];exact congrArg (·.getD .none) C
 refine (ay (loc.map λp=>(p.1,rN (aD agc sc.names[p.1]? λp:Str×afm=>(m p.1).getD .none) p.2)) (λb g n w e=>?_) (λb g i s H j l D n v e=>?_))
 ·rw[GO (f:=λn=>rN (aD agc sc.names[n]? λp:Str×afm=>(m p.1).getD .none))]at e
  refine Y (afZ.mp e) ?_;intro v t o;subst o;refine cg (h n v t) ?_;clear t;intro x k u c d A;refine (dx x k u c d ?_);rw[r n x k u c d];exact W5 A
 ·refine cg (h n v e) ?_;clear h;intro x k u c d A;refine cg (s n _ ((GO (f:=λn=>rN (aD agc sc.names[n]? λp:Str×afm=>(m p.1).getD .none))).trans (congrArg (Option.map _) e))) ?_;clear s e;intro I L E y F z
  refine ae (aeZ (aea (c.symm.trans y))) ?_;clear y;intro o G;subst o;subst G;rw[r n x k u c d]at z;exact (dx x k E c F (W6 A z (D _ _ A)))
noncomputable def lg:O->Bool:=O.rec (motive_1:=λc=>Bool) (motive_2:=λc=>Bool)
 true (λc=>true) (λc=>true) (λc=>true) (λc d=>d) (λc d=>d) (λc c d=>d) (λc=>false) (λc=>false) (λc c=>false) (λc c d=>false) (λc c=>false) false (λc=>false)
 true (λc c a b=>and a b)
noncomputable def kW (l:List O):Bool:=O.rec_1 (motive_1:=λc=>Bool) (motive_2:=λc=>Bool)
 true (λc=>true) (λc=>true) (λc=>true) (λc d=>d) (λc d=>d) (λc c d=>d) (λc=>false) (λc=>false) (λc c=>false) (λc c d=>false) (λc c=>false) false (λc=>false)
 true (λc c a b=>and a b) l
theorem VR.data (hl:∀ p∈N,p.1∉α->p∈f/\p.1∉g) (h:VR T α N v av):lg av=true->VR T g f v av:=
 VR.rec (motive_1:=λv av c=>lg av=true->VR T g f v av) (motive_2:=λj W c=>kW W=true->ah T g f j W) (λc=>.none) (λb c=>.bool b) (λi t c=>.int i t) (λt k c=>.str t k) (λd A l m c r b=>.tup (hl _ d A).1 (hl _ d A).2 l m (r b)) (λd c r b=>.tupK d (r b)) (λd A c r b=>.hl (hl _ d A).1 (hl _ d A).2 (r b)) (λe b=>absurd b aeP) (λa b=>absurd b aeP) (λc c b=>absurd b aeP) (λc c c c b=>absurd b aeP) (λc c c c b=>absurd b aeP) (λc b=>absurd b aeP) (λc c c b=>absurd b aeP) (λc=>.nil) (λc c q r b=>.cons (q (ad9.mp b).1) (r (ad9.mp b).2)) (λe c c q r b=>.yes e (q (ad9.mp b).1) (r (ad9.mp b).2)) (λe c r b=>.no e (r (ad9.mp b).2)) h
theorem ah.data (a:∀ p∈N,p.1∉α->p∈f/\p.1∉g) (h:ah T α N v av):kW av=true->ah T g f v av:=
 ah.ind (P:=λA d=>kW d=true->ah T g f A d) (λc=>.nil) (λq c r b=>.cons (q.data a (ad9.mp b).1) (r (ad9.mp b).2)) (λe q c r b=>.yes e (q.data a (ad9.mp b).1) (r (ad9.mp b).2)) (λe c r b=>.no e (r (ad9.mp b).2)) h
theorem Y7 (F:rM π α y N B) (own:∀ p∈N,p.1∈y->p∈B) (m:∀ v a,VR W.kt α N v a->ahS v=true) (s:∀ f k,Eng.below 0 (W.kt.θ f k)=true) (G:π[j]?=some i) (h:mO π 8 j E o=true) (g:OR W α N i b o):OR W y B j b E:=by
 induction E using AO.casesOn with
 |any=>exact .any
 |own=>exact .own
 |src k=>
  refine Y (vr h nofun) ?_;intro H c H;subst c;refine r9 g.inv ?_;intro a S t u n c d A;subst c;exact .src d A
 |tab P q=>exact aX h
 |list l=>
  refine Y (pJ h nofun) ?_;clear h;intro r c h;subst c;refine be g.inv ?_;intro T n c r;subst c;exact .list (GK F m s h r)
 |dict l=>
  refine Y (l5 h nofun) ?_;clear h;intro r c h;subst c;refine Y g.inv λV x r=>?_
  exact .dict x (W3 F m s h r)
 |obj C l=>
  refine be (Ee h nofun) ?_;clear h;intro D r c h;subst c;refine ae (ad9.mp h) λh e=>?_
  refine ae (ad9.mp h) λd A=>?_
  refine ir g.inv ?_;intro X Z es n c I L M Q;subst c;rw[aed d];induction j using aez with
  |zero=>exact aX e
  |succ k=>
   refine Y (aR (show aD false (nr π k) (λi=>mI π (k+1) (afb i))=true from e) nofun) λi' R e=>?_
   obtain rfl:=afR (I.symm.trans (aea (G.symm.trans (A4 e))));have z:=F.at_ _ _ _ (sI.symm.trans R) L;exact .obj rfl z (own _ M (aeM z)) (W4 F m s A Q)
 |cell v=>
  refine Y (aR (show aD false v (λa=>p8 false o λw=>aD false w λb=>mA π 8 a b)=true from h) nofun) ?_;clear h;intro a c d;subst c
  refine Y (vl d nofun) ?_;clear d;intro w c A;subst c;refine Y (aR A nofun) ?_;clear A;intro a' c e;subst c;refine Y g.inv λu x r=>?_
  exact .cell x (tF F m s e r)
theorem Px{α:Type}{p:α->Bool}{l:List α}:(l.filter p++l.filter λx=>!p x).Perm l:=by
 induction l with
 |nil=>exact .refl _
 |cons a l c=>
  induction h:p a using aee with
  |true=>
   rw[ah7 h,ah8 (p:=λx=>!p x) (by rw[h];exact aeP)]
   exact .cons _ c
  |false=>
   rw[ah8 (by rw[h];exact aeP),ah7 (p:=λx=>!p x) (by rw[h];rfl)]
   exact List.perm_middle.trans (.cons _ c)
theorem NR.none(a:c.comp=none):NR c loc α N m↔ek W c.scope loc α N m:=by unfold NR;rw[a]
theorem Ez{call:Call}(kq:dv W d call) (hc:ak c) (hA:aP c d A) (R:SR c σ s α N) (hπ:π.Nodup) (bN:∀ i∈π,i<σ.n) (hlen:π.length=l₀.length) (Mg:l₀.length<=1024) (el:lT π 8 σ.st l₀ 0=true)
  (acv:∀ (j i k:Nat),l₀[j]?=some (.src k)->π[j]?=some i->i∉σ.mark) (hf:mA π 16 f₀ f=true) (HJ:mL (mA π 16) args₀ args=true){P:O->Prop}(Y8:y₀≠.no) (Y9:∀ C,y₀≠.exc C)
  (hK:∀ a bu,K₀ a bu=y₀->aeQ l₀.length bu.lo=true/\∃ r,fV l₀.length a bu=.ok r/\lg r=true/\P r) (uc:∀ loc,call f₀ args₀ (gn l₀ loc) K₀=y₀)
  (uS:VR W.kt α N fv f) (Za:ah W.kt α N vals args){Q:aec->aeg->Prop}{E}(hQ:∀ r v s' y,P r->SR c σ s' α y->bh σ α N σ α y->VR W.kt α y v r->Q v s'):WP W A (afc fv vals) Q E s:=by
 classical
 have ht:∀ f k,Eng.below 0 (W.kt.θ f k)=true:=λf k=>hc.g.Bk f k 0
 have hh:∀ v a,VR W.kt α N v a->ahS v=true:=λv a h=>Ei hc R h
 have BO:∀ i∈π,i<α.length:=λi h=>by rw [R.len];exact bN i h
 let at_:Nat->Addr:=λi=>(α[i]?).getD 0
 have yC:∀ i a,α[i]?=some a->at_ i=a:=λi a e=>by show (α[i]?).getD 0=a;rw [e];rfl
 let G:List Addr:=π.map at_
 have sub:∀ a∈G,a∈α:=λa h=>by
  refine Y (aeG.mp h) ?_;intro i S H;subst H
  have e:α[i]?=some (α[i]'(BO i S)):=aeN _
  rw [yC i _ e]
  exact List.getElem_mem _
 have rl:∀ (j i:Nat) a,π[j]?=some i->α[i]?=some a->G[j]?=some a:=λj i a u I=>by
  show (π.map at_)[j]?=some a
  rw [af1,u]
  exact congrArg some (yC i a I)
 have acw:G.Nodup:=by
  refine List.pairwise_map.mpr (hπ.imp_of_mem fun{i j}S hj eS e=>eS ?_)
  have ei:α[i]?=some (α[i]'(BO i S)):=aeN _
  have ej:α[j]?=some (α[j]'(BO j hj)):=aeN _
  rw [yC i _ ei,yC j _ ej] at e
  rw [←e] at ej
  exact hH R ei ej
 let pr:aep×Obj->Bool:=λp=>decide (p.1∉α\/p.1∈G)
 let X:=N.filter pr
 let D:=N.filter λp=>!pr p
 have perm:(X++D).Perm N:=Px
 have led:∀ p∈N,p.1∉α->p∈X:=λp h h'=>ahR.mpr ⟨h,decide_eq_true (.inl h')⟩
 have own:∀ p∈N,p.1∈G->p∈X:=λp h h'=>ahR.mpr ⟨h,decide_eq_true (.inr h')⟩
 have hM:∀ p∈D,p∈N/\p.1∈α/\p.1∉G:=λp h=>by
  refine ae (ahR.mp h) λu I=>?_
  have h3:pr p=false:=(aeK _).mp I
  have h4:=of_decide_eq_false h3
  exact (bH u (Classical.not_not.mp λz=>h4 (.inl z)) (λz=>h4 (.inr z)))
 have qb:rM π α G N X:=⟨rl,sub,led⟩
 let T:=c.with (D++c.ax)
 have wG:ak T:=hc.with λp h=>aek _ h
 have Zb:aP T d A:=hA.with _
 have Zc:((X++(D++c.ax)).map (·.1)).Perm ((N++c.ax).map (·.1)):=by
  rw [←afG]
  exact (perm.append_right _).map _
 have Mh:∀ p,p∈X++(D++c.ax)↔p∈N++c.ax:=λp=>by
  rw [←afG];exact (perm.append_right c.ax).mem_iff
 refine ae (Ro (l:=l₀) (loc:=[]) Mg) λhw hg=>?_
 refine Y R.fr λqe Fm hm=>?_
 obtain ⟨Z,n1,n2⟩:∃ Z:List (Nat×O),NR T Z G X qe/\∀ bG y m',NR T Z bG y m'->∀ {km},(∀ v a,VR W.kt α N v a->VR W.kt α km v a)->NR c σ.loc α km m':=by
  induction ku:c.comp using aer with
  |none=>
   have ez:=(NR.none ku).mp hm
   refine Y (Qv ez) λZ p1 p2=>?_
   exact ⟨Z,(NR.none (c:=T) ku).mpr (p1 _ _),λbG y m' h km tr=>(NR.none ku).mpr (p2 _ _ _ ((NR.none (c:=T) ku).mp h) hc.cV tr)⟩
  |some pp=>
   obtain ⟨C,mf⟩:=pp
   have yD:=hm
   unfold NR at yD
   rw [ku] at yD
   refine kL yD ?_;clear yD;intro e1 L m₂ e2 e3 e4
   refine (ay [] ?_ (λbG y m' h km tr=>?_))
   ·unfold NR
    rw [show T.comp=some (C,mf) from ku]
    exact (nM e1 L m₂ (aek _ e2) e3 (λn v e=>by exact aT e))
   ·unfold NR at h ⊢
    rw [show T.comp=some (C,mf) from ku] at h
    rw [ku]
    refine (nM h.1 L m₂ e2 e3 (λn v e=>?_))
    refine cg (e4 n v e) λqf k val B z2 V=>?_
    exact (dx qf k val B z2 (tr _ _ V))
 have HK:SR T (gn l₀ Z) s G X:=by
  refine ⟨(ay qe Fm n1),λg g e=>(by exact aT e),λp x=>R.news p ((Mh p).mp x),Zc.nodup_iff.mpr R.nodup,acw,λj L hj e=>?_,λa h=>?_,λp x=>R.hi p ((Mh p).mp x),hw,Mg,?_,aeu _,λg h=>(by cases h),R.gens,R.os,R.aZ⟩
  ·have yE:j<l₀.length:=hj
   have e':l₀[j]?=some L:=(hg j yE).symm.trans e
   refine aH (Ay el j L e') λi o' m t F=>?_
   rw [ag8] at m F
   refine aH (R.obj i o' (bN i (aeM m)) t) λa b B z2 V=>?_
   have za:=rl j i a m B
   exact (bB a b za (own _ z2 (aeM za)) (Y7 qb own hh ht m F V))
  ·refine aL (R.mem (sub a h)) ?_;clear sub;intro b hb
   exact aew (f:=λp:aep×Obj=>p.1) (own _ hb h)
  ·show (π.map at_).length=l₀.length
   rw [ahi];exact hlen
 refine kq T A wG Zb f₀ args₀ (gn l₀ Z) _ y₀ (uc Z) Y8 s G X E HK (λC e bu s' bG y q=>absurd q (Y9 C)) fv vals (tF qb hh ht hf uS) (GK qb hh ht HJ Za) (Tu HJ) Q λa bu v s' bG y hk M qa hv=>?_
 refine VV (hK a bu hk) ?_;clear hK hk;intro eT r uP hr hP
 have Mi:=aei eT
 have gW:=sg wG HK M qa hv uP
 have BQ:=qa.ge.pre
 have at0:∀ (j i:Nat) a,π[j]?=some i->α[i]?=some a->j<l₀.length:=λj i a u g=>by rw [←hlen];exact (aeV.mp u).1
 have wV:∀ (j i k:Nat),l₀[j]?=some (.src k)->π[j]?=some i->∃ k',σ.st.get i=some (.src k'):=λj i k u I=>by
  refine aH (Ay el j _ u) λi' o' m t F=>?_
  rw [ag8,I] at m
  have H:=aea m;subst i'
  refine Y (vr F nofun) ?_;intro k' H g;subst H
  exact ⟨k',t⟩
 have qP:∀ p∈N,(∀ (j i k:Nat),l₀[j]?=some (AO.src k)->π[j]?=some i->α[i]?=some p.1->False)->p∈y++D:=λp x hs=>by
  rcases aeH.mp (perm.mem_iff.mpr x) with q|q
  ·refine aef _ ?_
   by_cases z:p.1∈G
   ·refine aL (aht.mp z) λj hj=>?_
    have pz:j<l₀.length:=by
     have:=(aeV.mp hj).1
     rw [show G.length=l₀.length by show (π.map at_).length=_;rw [ahi];exact hlen] at this
     exact this
    refine qa.obs j p.1 p.2 (aej pz Mi) hj q λb fb e=>?_
    have e':l₀[j]?=some b:=(hg j pz).symm.trans e
    refine aH (Ay el j _ e') ?_;clear el;intro i o' m t F
    rw [ag8] at m
    have S:=bN i (aeM m)
    refine aH (R.obj i o' S t) λa' b' B z2 V=>?_
    have za:=rl j i a' m B
    rw [hj] at za
    have H:=aea za;clear za;subst a'
    induction b using AO.casesOn<;>try exact aX fb
    ·exact hs j i _ e' m B
    ·exact aX F
   ·exact qa.ge.keep p q z
  ·exact aek _ q
 have keep:∀ p∈N,p.1∉α->p∈y++D:=λp x hn=>qP p x λj i k g g e=>hn (aeM e)
 have HL:∀ p∈N,(∀ a qc b qd n,p.2≠aex #[.int a qc,.int b qd] n)->p∈y++D:=λp x hn=>qP p x λj i k u I ha=>by
  refine aL (wV j i k u I) λk' e=>?_
  refine aH (R.obj i _ (bN i (aeM I)) e) ?_;clear bN;intro a' b' B z2 V
  rw [ha] at B
  have H:=aea B;clear B;subst a'
  have m:=R.get (a:=p.1) (o:=p.2) x
  rw [R.get z2] at m
  refine RH V.inv λg g g g g e g=>?_
  exact hn _ _ _ _ _ ((aea m).symm.trans e)
 have BR:((y++(D++c.ax)).map (·.1)).Nodup:=M.nodup
 have xM:(((y++D)++c.ax).map (·.1)).Nodup:=by rw [afG];exact BR
 have ge:Ge α N α (y++D):=⟨afA _,λp h h'=>keep p h h',λg h=>.inl h,λP ps h=>⟨ps,HL _ h λa qc b qd n e=>by cases e⟩⟩
 have step:bh σ α N σ α (y++D):=⟨⟨ge,aeu _,λg g=>rfl,aeu _,rfl,λi a L g u h nt=>qP _ h λj i' k m t F=>by
  obtain rfl:=hH R u F
  refine aL (wV j i k m t) λk' e=>?_
  exact nt _ rfl e,λi S=>⟨rfl,λa L u h=>qP _ h λj i' k m t F=>by
  obtain rfl:=hH R u F
  exact acv j i k m t S⟩⟩,rfl⟩
 refine Y M.fr λm' Fm' ez=>?_
 have kc:bu.loc=Z:=qa.loc
 rw [kc] at ez
 have Rf:SR c σ s' α (y++D):=by
  refine ⟨(ay m' Fm' (n2 _ _ _ ez λv a h=>h.mono ge)),R.aK,λp x=>M.news p (by rw [afG] at x;exact x),xM,R.inj,λi L S e=>?_,λa h=>?_,λp x=>M.hi p (by rw [afG] at x;exact x),R.wf,R.bD,R.len,R.low,R.bt,M.gens,M.os,M.aZ⟩
  ·refine aH (R.obj i L S e) ?_;clear S;intro a b B z2 V
   by_cases hz:∃ (j k:Nat),l₀[j]?=some (AO.src k)/\π[j]?=some i
   ·refine be hz ?_;clear hz;intro j k m t
    have pz:=at0 j i a t B
    refine aL (wV j i k m t) ?_;clear wV;intro k' e'
    rw [e] at e'
    have H:=aea e';clear e';subst L
    have yE:bu.st.get j=some (.src k):=(qa.same j (aej pz Mi)).trans ((hg j pz).trans m)
    refine aH (M.obj j _ (aej pz qa.n) yE) ?_;clear pz qa yE;intro a' b' w1 w2 w3
    have w4:=jc BQ w1 (vA (rl j i a t B))
    rw [rl j i a t B] at w4
    have H:=aea w4;clear w4;subst a'
    refine r9 w3.inv ?_;clear w3;intro g g g g g H u I;subst H
    exact (bB a _ B (aef _ w2) (.src u I))
   ·refine (bB a b B (qP _ z2 λj i' k m t F=>?_) ?_)
    ·obtain rfl:=hH R B F
     exact hz (gJ j k m t)
    ·refine V.wd ge λhx j' d L h5 h6 e4=>?_
     refine eY hx ?_;clear hx;intro C es H;subst H
     refine ir V.inv ?_;clear V;intro j2 d2 es2 n2 g e5 h7 h8 g
     obtain rfl:=afR (e4.symm.trans e5)
     obtain rfl:=aea (h5.symm.trans h7)
     rw [R.uniq h6 h8]
     exact HL _ h8 λa qc b qd n e=>absurd (congrArg Obj.cls e) (by show ¬ (agw "dict" =agw "list");decide)
  ·by_cases z:a∈G
   ·refine Y (aeG.mp (M.all a (BQ.subset z))) ?_;clear M BQ;intro p x e
    exact aeG.mpr (ay p (aef _ x) e)
   ·refine aL (R.mem h) ?_;clear h;intro b hb
    exact aew (f:=λp:aep×Obj=>p.1) (qP _ hb λj i k g t F=>z (aeM (rl j i a t F)))
 refine hQ r v s' _ hP Rf step (gW.data (λp u I=>⟨aef _ u,λz=>?_⟩) hr)
 refine aL (R.mem z) ?_;clear R;intro b hb
 rcases aeH.mp (perm.mem_iff.mpr hb) with q|q
 ·refine ae (ahR.mp q) λg t=>?_
  rcases of_decide_eq_true t with w|w
  ·exact w z
  ·exact I w
 ·rw [aeO] at BR
  exact absurd rfl ((aeY.mp BR).2.2 _ (aew (f:=λp:aep×Obj=>p.1) u) _ (show p.1∈(D++c.ax).map (·.1) from aeG.mpr (ay (p.1,b) (aef _ q) rfl)))
noncomputable def A5 (l:List AO):Bool:=aeC true (λo c d=>sD d o λc=>false) l
theorem Tv:A5 l=true->∀ (j k:Nat),l[j]?≠some (.src k):=by
 induction l with
 |nil=>exact λd j k e=>nomatch e
 |cons o l c=> intro h j k e;induction j using aez with
  |zero=>have A:=aea e;subst o;exact aX h
  |succ j=>exact c (by induction o using AO.casesOn<;>first|exact h|exact aX h) j k e
theorem Rp{call:Call}(n:dv W d call) (o:ak c) (p:aP c d A) (R:SR c σ s α N) (q:π.Nodup) (t:∀ i∈π,i<σ.n) (u:π.length=l₀.length) (w:l₀.length<=1024) (x:lT π 8 σ.st l₀ 0=true)
  (y:mA π 16 f₀ f=true) (z:mL (mA π 16) args₀ args=true) (B:lg r=true) (D:∀ loc,call f₀ args₀ (gn l₀ loc) (fW l₀.length)=.ok r)
  (F:VR W.kt α N G f) (H:ah W.kt α N vals args){Q:aec->aeg->Prop}{E}(I:∀ v l b,SR c σ l α b->bh σ α N σ α b->VR W.kt α b v r->Q v l) (L:A5 l₀=true:=by rfl):WP W A (afc G vals) Q E s:=
 Ez n o p R q t u w x (λj i k e M M=>Tv L j k e) y z (K₀:=fW l₀.length) (P:=λa=>a=r) (y₀:=.ok r) (by intro h;contradiction) (λC h=>by contradiction) (λa m h=>by
  refine ae (aS (show aN .no (aeQ l₀.length m.lo) (fV l₀.length a m)=.ok r from h) nofun) λS T=>?_
  exact (Gg S r T B rfl)) D F H λX v l b e V g h=>I v l b V g (e▸h)
noncomputable def wW (a b:Ev):Ev:=λc k=>a c λx c=>b c λy c=>dR .no x λi=>dR .no y λj=>k (.int (i-j)) c
theorem Fd (g:aE c A a l) (m:aE c A b n):aE c A (.BinOp a .Sub b pos) (wW l n):=by
 intro o k y h d s p N E R W Q q;refine wpAny_BinOp ?_;refine g o _ y h d s p N E R W _ λB C D F G H h r e v=>?_
 refine m _ _ _ h d _ _ _ _ r (W.step e.kp) _ λI L M P S T h w f x=>?_
 refine i3 (v.mono f.ge) h d λi t z h=>i3 x h d λj u z h=>?_
 exact sub_int' (q _ _ _ _ _ _ h w.toks (e.trans f) (.int _ _))
theorem Zd (e:JE W G a f) (g:JE W G b i):JE W G (.BinOp a .Sub b pos) (wW f i):=λc A h=>Fd (e c A h) (g c A h)
noncomputable def acx:Prim:=λl c k=>hU l λa=>dR .no a λi=>k (.int i) c
theorem Vs:dQ c A (.type "int") acx:=by
 intro l g k y h d s j N E R m n W b Q e;refine iw W b h d λa v f h=>i3 f h d λi t o h=>?_
 exact call_int_int (e _ _ _ _ _ _ h R .refl (.int _ _))
noncomputable def eF(p:Prop)(x:Rs):Rs:=haveI:=ahc p;if p then x else .no
theorem ef{p:Prop}(h:eF p x=y) (a:y≠.no):p/\x=y:=by
 haveI:=ahc p;by_cases q:p
 ·exact⟨q,(if_pos q).symm.trans h⟩
 ·exact bO ((if_neg q).symm.trans h) a
theorem eB{p:Prop}(h:p):eF p x=x:=if_pos h
noncomputable def br (σ:LS) (x:Int):Ev:=λc k=>eF (c=σ) (k (.int x) σ)
theorem fB:br σ x σ k=k (.int x) σ:=eB rfl
theorem ic (h:aE c A e a) (b:∀ k,a σ k=k (.int x) σ):aE c A e (br σ x):=by
 intro j k y q d s W N E R f Q g;refine ae (ef q d) ?_;clear q;intro i q;subst i;exact h _ k y ((b k).trans q) d s W N E R f Q g
theorem tG (j:ak c) (w:∀ {s:aeg}{t u:Tok}{Q:aec->aeg->Prop}{E:aec->aeg->Prop},s.heap.NoLimit->s.heap.NoSeer->Q (.int z s.toks) {s with toks:=s.toks+1}->WP W A (binaryOp op (.int x t) (.int y u)) Q E s) (B:aE c A a (br σ x)) (C:aE c A b (br σ y)):aE c A (.BinOp a op b pos) (br σ z):=by
 intro l k g q f s D N E R m Q G;refine ae (ef q f) ?_;clear q;intro d q;subst d;refine wpAny_BinOp ?_;refine B l (λa i=>eF (a=.int x/\i=l) g) g (fB.trans (eB ⟨rfl,rfl⟩)) f s D N E R m _ λL i M P S V h H n o=>?_
 refine ae (ef h f) λd e=>?_;obtain ⟨rfl,rfl⟩:=d
 refine C i (λa p=>eF (a=.int y/\p=i) g) g (fB.trans (eB ⟨rfl,rfl⟩)) f _ _ _ _ H (m.step n.kp) _ λX p Z d0 eh dJ h r I v=>?_
 refine ae (ef h f) ?_;clear h f;intro d e;obtain ⟨rfl,rfl⟩:=d;refine aL o.inv ?_;clear o;intro t d;subst d;refine aL v.inv ?_;clear v;intro u d;subst d;refine Y r.fr λe F e=>?_
 refine gH j.top λe e e e T=>?_
 exact w (j.lim.keeps F.keep) (T.seer.keeps F.keep) (G _ _ _ _ _ _ q r.toks (n.trans I) (.int _ _))
theorem wX (e:ak c) (f:aE c A a (br σ x)) (g:aE c A b (br σ y)):aE c A (.BinOp a .Add b pos) (br σ (x+y)):=tG e (op:=.Add) (z:=x+y) (λd d h=>ajH (a:=x) (b:=y) h) f g
theorem qQ (e:ak c) (f:y≠0) (g:aE c A a (br σ x)) (i:aE c A b (br σ y)):aE c A (.BinOp a .Mod b pos) (br σ (x.fmod y)):=tG e (op:=.Mod) (z:=x.fmod y) (λd d h=>PyProof.Rows.mod_int (a:=x) (b:=y) f h) g i
theorem HM (f:ak c) (i:aP c d A) (j:c.comp=none) (k:c.scope.isGenerator=false) (m:c.scope.isCoroutine=false) (n:y≠0) (o:aE c A a (br σ x)) (p:aE c A b (br σ y)):aE c A (.BinOp a .FloorDiv b pos) (br σ (x.fdiv y)):=
 tG f (op:=.FloorDiv) (z:=x.fdiv y) (fun{s t u Q E}q r h=>floordiv_int (a:=x) (b:=y) n h (.inr (PySem.PylongRoom.of q (af7 (agZ (aev (aeR _ _) i.depth) 100) (by decide)) (by
  refine gH f.top λg g g g T=>?_
  have e:=f.uw j;exact PySem.SeerAt.of (M:=aeI W.prog W.w) (A:=A) (env:=c.bF) (l:=c.outer) r T.tree i.frames (e▸k) (e▸m) (e▸f.qA) (e▸f.iE))))) o p
theorem oy (e:ak c) (f:IntMulOk x y) (g:aE c A a (br σ x)) (i:aE c A b (br σ y)):aE c A (.BinOp a .Mult b pos) (br σ (x*y)):=tG e (op:=.Mult) (z:=x*y) (λd d h=>PyProof.Rows.mul_int (a:=x) (b:=y) h f) g i
theorem fP:aE c A (.Constant (.int i) kk pos) (br σ i):=ic (sZ (a:=.int i) rfl) λk=>rfl
theorem f6 (a:ak c) (b:c.scope.names[n]?=some (x,.local)) (e:cH x=true) (h:lk n σ.loc=some (.int i)):aE c A (.Name x pos) (br σ i):=ic (kO a b e) λk=>by rw[nO,h];rfl
theorem oz (b:ak c) (f:c.scope.names[n]?=some (x,.local)) (g:cH x=true) (h:lk n σ.loc=some (.ref i)) (m:σ.st.get i=some (.list l)) (o:nZ l (afs j)=some (.int v)):aE c A (.Subscript (.Name x p) (.Constant (.int (afs j)) kk q) pos) (br σ v):=
 ic (FL b rfl (kO b f g) (sZ (a:=.int (afs j)) rfl)) λk=>by
  show J n σ _=_;rw[nO,h];have e:xk σ.st (.ref i) (.int (afs j))=some (.int v):=by
   show Bt σ.st (.ref i) (afs j)=_;unfold Bt;rw[show vw σ.st (.ref i)=.lst l by show (aeT Vw.bad yn (σ.st.get i):Vw)=_;rw[m];rfl]
   exact o
  show aD .no (xk σ.st (.ref i) (.int (afs j))) (λv=>k v σ)=_
  rw[e];rfl
theorem mJ (b:ak c){n:Nat}{i:Int}(a:aey e=false) (f:c.scope.names[n]?=some (("int" :Str),.globalImplicit)) (g:W.G.boot "int" =true) (h:aE c A e (br σ i)):aE c A (.Call (.Name "int" j) [e] [] pos) (br σ i):=
 ic (vC b (by rw [afr,a];rfl) f (by kernel_rfl) g (v:=.type "int") (by kernel_rfl) (by kernel_rfl) Vs (jQ a h nL)) λk=>by show br σ i σ _=_;rw [fB]
noncomputable def iJ (σ:LS) (b:Bool):Tc:=λc k=>eF (c=σ) (k b σ)
theorem tc (h:dz c A e a) (f:∀ k,a σ k=k b σ):dz c A e (iJ σ b):=by
 intro l k y q d s W N E R g Q i;refine ae (ef q d) ?_;clear q;intro j q;subst j;exact h _ k y ((f k).trans q) d s W N E R g Q i
theorem Mj (e:ak c) (f:aP c d A) (g:decide (x>y)=t) (h:afy .Gt b=false) (i:aE c A a (br σ x)) (j:aE c A b (br σ y)):dz c A (.Compare a [.Gt] [b] pos) (iJ σ t):=
 g▸tc (zS e f e.g.tok h i j) λk=>by show br σ x σ _=_;rw [fB];show br σ y σ _=_;rw [fB];rfl
noncomputable def fF (a σ₂:LS):Sc:=λc kn d=>eF (c=a) (kn σ₂)
noncomputable def hW (a σ₂:LS) (x:Int):Sc:=λc A d=>eF (c=a) (d (.int x) σ₂)
theorem sc{st:afu}{code}{a σ₂:LS}(h:bQ c A st code) (b:∀ kn kr,code a kn kr=kn σ₂):bQ c A st (fF a σ₂):=by
 intro k kn kr y q d s W N E R e Q f g;refine ae (ef q d) ?_;clear q;intro i j;subst i;exact h _ kn kr y ((b kn kr).trans j) d s W N E R e Q f g
theorem rc{st:afu}{code}{a σ₂:LS}{x:Int}(h:bQ c A st code) (b:∀ kn kr,code a kn kr=kr (.int x) σ₂):bQ c A st (hW a σ₂ x):=by
 intro k kn kr y q d s W N E R e Q f g;refine ae (ef q d) ?_;clear q;intro i j;subst i;exact h _ kn kr y ((b kn kr).trans j) d s W N E R e Q f g
theorem NW{a:List afu}{code}{b σ₂:LS}{x:Int}(h:cy c A a code) (e:∀ kn kr,code b kn kr=kr (.int x) σ₂):cy c A a (hW b σ₂ x):=by
 intro l kn kr y q d s W N E R f Q g i;refine ae (ef q d) ?_;clear q;intro j k;subst j;exact h _ kn kr y ((e kn kr).trans k) d s W N E R f Q g i
theorem pN:fF a σ₂ a kn kr=kn σ₂:=eB rfl
theorem vn:hW a σ₂ x a kn kr=kr (.int x) σ₂:=eB rfl
theorem wY{st:afu}{b:List afu}{a σ₂ e:LS}{x:Int}(h:bQ c A st (fF a σ₂)) (h':cy c A b (hW σ₂ e x)):cy c A (st::b) (hW a e x):=
 NW (jY h h') λkn d=>by show fF a σ₂ a _ d=_;rw[pN,vn]
theorem BS{st:afu}{b:List afu}{x:Int}{code}(h:bQ c A st (hW a σ₂ x)) (h':cy c A b code):cy c A (st::b) (hW a σ₂ x):=
 NW (jY h h') λkn d=>by show hW a σ₂ x a _ d=_;rw[vn]
theorem Mk{e:aeD}{pos:Pos}{σ:LS}{x:Int}(h:aE c A e (br σ x)):bQ c A (.Return (some e) pos) (hW σ σ x):=rc (vK h) λkn d=>by
 show br σ x σ d=_;rw[fB]
theorem ud (a:ak c) (b:c.comp=none){x:Str}{σ:LS}{i:Int}(f:eJ e=false) (g:c.scope.names[n]?=some (x,.local)) (h:aE c A e (br σ i)):bQ c A (.Assign [.Name x j] e p) (fF σ ⟨(n,.int i)::σ.loc,σ.aK,σ.st,σ.n,σ.lo,σ.mark⟩):=
 sc (FJ f (zV a b g) h) λkn d=>by show br σ i σ _=_;rw [fB];rfl
theorem ifS{t:aeD}{a b:List afu}{x:Int}{e}(f:dz c A t (iJ σ true)) (g:cy c A a (hW σ σ₂ x)) (h:cy c A b e):bQ c A (.If t a b pos) (hW σ σ₂ x):=
 rc (sH f g h) λkn d=>by
  show iJ σ true σ _=_;rw[show ∀ k,iJ σ true σ k=k true σ from λk=>eB rfl]
  show hW σ σ₂ x σ kn d=_;rw[vn]
theorem NX{t:aeD}{σ:LS}{b}(e:dz c A t (iJ σ false)) (f:cy c A a b):bQ c A (.If t a [] pos) (fF σ σ):=
 sc (sH e f qn) λkn d=>by
  show iJ σ false σ _=_;rw [show ∀ k,iJ σ false σ k=k false σ from λk=>eB rfl]
  rfl
theorem Ml (R:ak c) (n:j<2) (S:aE c A e (br σ x)) (T:aE c A o V) (X:∀ k,V σ k=k (.ref i) σ) (v:σ.st.get i=some (.list [.int a,.int b])) (Z:cL i σ.mark=false):
  bQ c A (.Assign [.Subscript o (.Constant (.int (afs j)) kk p'') p'] e p) (fF σ (σ.put i (.list (([.int a,.int b]:List O).set j (.int x))))):=by
 intro w kn kr y q W s α qa qb qc z qd hn hr';refine ae (ef q W) ?_;clear q;intro d q1;subst d;refine aii ?_ (zu _ _ _ _ _ _);refine S w (λa g=>eF (a=.int x/\g=w) y) y (fB.trans (eB ⟨rfl,rfl⟩)) W s α qa qb qc z _ λva g tQ dk cK bZ h dn B C=>?_
 refine ae (ef h W) λd D=>?_;obtain ⟨rfl,rfl⟩:=d
 have E:=z.step B.kp;refine T g (λa l=>eF (a=.ref i/\l=g) y) y ((X _).trans (eB ⟨rfl,rfl⟩)) W _ _ _ _ dn E _ λvb l rf d0 eh dJ h cA F G=>?_
 refine ae (ef h W) λd D=>?_;obtain ⟨rfl,rfl⟩:=d
 have tD:=E.step F.kp;refine (sZ (a:=.int (afs j)) rfl) l (λa H=>eF (a=.int (afs j)/\H=l) y) y (eB ⟨rfl,rfl⟩) W _ _ _ _ cA tD _ λvc H ad7 dU ji fY h f I L=>?_
 refine ae (ef h W) λd D=>?_;obtain ⟨rfl,rfl⟩:=d
 refine aL C.inv ?_;clear C;intro u d;subst d;refine aL L.inv ?_;clear L;intro t3 d;subst d;refine eI (f.at v (G.mono I.ge)) ?_;clear v G;intro ad ob d M m N;subst d;refine be N.inv ?_;clear N;intro vs qe d r;subst d;refine aH (jV r rfl) ?_;clear r;intro w1 w2 d P Q;subst d;refine aL P.inv ?_;clear P;intro u1 d;subst d;refine aL Q.inv ?_;clear Q;intro u2 d;subst d;refine ki_setAt (f.get m) (Int.natCast_nonneg j) (aiC (aiH.mpr n) (by decide)) (aiH.mpr n) ?_
 have q':=PySem.IsL.update (f.get m) (·.setIfInBounds (afs j).toNat (.int x u));refine Y (f.qF R (t:=dU.toks) (ao':=.list (([.int a,.int b]:List O).set j (.int x))) Z M m (f.vv M m) (agi ..) q' λN' qf=>by
  rcases j with _|_|j
  ·exact .list (vs:=[.int x u,.int b u2]) (.cons (.int _ _) (.cons (.int _ _) .nil))
  ·exact .list (vs:=[.int a u1,.int x u]) (.cons (.int _ _) (.cons (.int _ _) .nil))
  ·exact absurd n (afk.mpr (agt _ _))) λN' lA eQ=>?_
 exact hn _ _ _ _ q1 lA (B.trans (F.trans (I.trans eQ))).toSts
end
noncomputable def A6(i:Nat):Option Stmt:=aiU.main.body[i]?
noncomputable def Ze (o:Option afu)(j:Nat):Option Stmt:=match o with
 |some (.ClassDef a c d b e f g h i k l)=>b[j]?
 |_=>none
noncomputable def NY (a:List O)(c:Option (aep×Str))(o:Option afu):aJ:=match o with
 |some (.FunctionDef e d b f g h sc i j k)=>⟨d.args.map (·.arg),a,b,sc,c⟩
 |_=>⟨[],[],[],⟨.function,[],false,false,[]⟩,none⟩
noncomputable def dF (i:Nat)(a:List O)(b:Option (aep×Str)):aJ:=NY a b (A6 i)
noncomputable def dM (i j:Nat) (a:List O) (b:Option (aep×Str)):aJ:=NY a b (Ze (A6 i) j)
noncomputable def dg (n:Nat):List Nat:=afX (motive:=λa=>Nat->List Nat) (λa=>[]) (λa b n=>aen (List.cons (Nat.mod n (nat_lit 128)) (b (Nat.div n (nat_lit 128)))) [] (aem n (nat_lit 0))) (nat_lit 60) n
noncomputable def sn(n:Nat):Str:=⟨⟨dg n⟩⟩
noncomputable def s0:Str:=sn (nat_lit 1684210)
noncomputable def s1:Str:=sn (nat_lit 1980386)
noncomputable def s2:Str:=sn (nat_lit 32685996385)
noncomputable def s3:Str:=sn (nat_lit 27340323572)
noncomputable def s4:Str:=sn (nat_lit 1913441)
noncomputable def s5:Str:=sn (nat_lit 29741659367)
noncomputable def s6:Str:=sn (nat_lit 12199)
noncomputable def s7:Str:=sn (nat_lit 232569588)
noncomputable def s8:Str:=sn (nat_lit 1915629)
noncomputable def s9:Str:=sn (nat_lit 183459269831563612044806463256808141958890248631909)
noncomputable def s10:Str:=sn (nat_lit 2303020129518922212595304907156821851034386993249)
noncomputable def gw:Str:=sn (nat_lit 439045720979879)
noncomputable def s12:Str:=sn (nat_lit 2789249209718269451777724878960720361454)
noncomputable def iW:Str:=sn (nat_lit 509274920400877)
noncomputable def jI:Str:=sn (nat_lit 3499571623917)
noncomputable def pA:Str:=sn (nat_lit 65178289835848423)
noncomputable def gy:Str:=sn (nat_lit 7341403567688463091)
noncomputable def NZ:Str:=sn (nat_lit 28160129382)
noncomputable def pB:Str:=sn (nat_lit 220016880)
noncomputable def rO:Str:=sn (nat_lit 211317490)
noncomputable def N0:Str:=sn (nat_lit 30815400686)
noncomputable def C3:Str:=sn (nat_lit 487903953876853)
noncomputable def N2:Str:=sn (nat_lit 30815139689)
noncomputable def s23:Str:=sn (nat_lit 3499542426867)
noncomputable def s24:Str:=sn (nat_lit 29902094932822431554668417848298481367185993122765938174419697132643359391678047609096073528341240263965439095)
noncomputable def pC:Str:=sn (nat_lit 27057156334)
noncomputable def kx:Str:=sn (nat_lit 215691987)
noncomputable def yF:Str:=sn (nat_lit 213692642)
noncomputable def fu:Str:=sn (nat_lit 29464768752)
noncomputable def C4:Str:=sn (nat_lit 7273)
noncomputable def C5:Str:=sn (nat_lit 891113)
noncomputable def C6:Str:=sn (nat_lit 825833)
noncomputable def C7:Str:=sn (nat_lit 858985)
noncomputable def dX:Str:=sn (nat_lit 7285)
noncomputable def C8:Str:=sn (nat_lit 891125)
noncomputable def C9:Str:=sn (nat_lit 825845)
noncomputable def Dc:Str:=sn (nat_lit 858997)
noncomputable def Dd:Str:=sn (nat_lit 27369568757)
noncomputable def il:Str:=sn (nat_lit 1914729)
noncomputable def lU:Str:=sn (nat_lit 228325346)
noncomputable def yG:Str:=sn (nat_lit 1980354)
noncomputable def s41:Str:=sn (nat_lit 1109401538092796859448434717967557674438753)
noncomputable def s42:Str:=sn (nat_lit 4696590749077970334064141569389600)
noncomputable def N3:Str:=sn (nat_lit 211530982)
noncomputable def lV:Str:=sn (nat_lit 213662964)
noncomputable def ip:Str:=sn (nat_lit 31081608427)
noncomputable def jJ:Str:=sn (nat_lit 4012552010355)
noncomputable def lW:Str:=sn (nat_lit 230520677)
noncomputable def s48:Str:=sn (nat_lit 120281555776240478909600)
noncomputable def s49:Str:=sn (nat_lit 1489518443178099845485390263079823772974981858748122335905608736)
noncomputable def s50:Str:=sn (nat_lit 90857874990378586809120868428637659338764249079880229614624)
noncomputable def gA:Str:=sn (nat_lit 31360317812)
noncomputable def s52:Str:=sn (nat_lit 17654289451687522070230176)
noncomputable def De:Str:=sn (nat_lit 4953558574884358956086388)
noncomputable def s54:Str:=sn (nat_lit 351583381415662247441890853664545339800752989947032094941461680811209888)
noncomputable def s55:Str:=sn (nat_lit 6553618105418653601293078532443619647827575561055504198526424546059021226081)
noncomputable def nE:Str:=sn (nat_lit 65253223870279926)
noncomputable def jK:Str:=sn (nat_lit 243085921)
noncomputable def f7:Str:=sn (nat_lit 3980834681072)
noncomputable def eA:Str:=sn (nat_lit 509584938234610)
noncomputable def yH:Str:=sn (nat_lit 41464991726959899406989434952756905352086407286977766)
noncomputable def g6:Str:=sn (nat_lit 27071920119)
noncomputable def fw:Str:=sn (nat_lit 232355951)
noncomputable def f9:Str:=sn (nat_lit 213628900)
noncomputable def pD:Str:=sn (nat_lit 226228204)
noncomputable def s65:Str:=sn (nat_lit 137878008787304460318700)
noncomputable def s66:Str:=sn (nat_lit 45241803977858723779674647579336105086750817)
noncomputable def fx:Str:=sn (nat_lit 3982755641193)
noncomputable def dw:Str:=sn (nat_lit 4017373395695)
noncomputable def N4:Str:=sn (nat_lit 29779294059)
noncomputable def uU:Str:=sn (nat_lit 27076163558)
noncomputable def yI:Str:=sn (nat_lit 7268149395761869555)
noncomputable def ky:Str:=sn (nat_lit 1817583)
noncomputable def N5:Str:=sn (nat_lit 1068174322624942864756)
noncomputable def yJ:Str:=sn (nat_lit 23482786538440142341735227296871442170742557378083305)
noncomputable def s75:Str:=sn (nat_lit 243086566)
noncomputable def rP:Str:=sn (nat_lit 3982730230132)
noncomputable def g7:Str:=sn (nat_lit 509241338966765)
noncomputable def s78:Str:=sn (nat_lit 10390955715862263201609253680160)
noncomputable def yK:Str:=sn (nat_lit 245102707)
noncomputable def uV:Str:=sn (nat_lit 242873587)
noncomputable def yL:Str:=sn (nat_lit 38709326520049062212724)
noncomputable def s82:Str:=sn (nat_lit 38846627762232572572832)
noncomputable def s83:Str:=sn (nat_lit 8417935371586337312)
noncomputable def Df:Str:=sn (nat_lit 65253160502538980)
noncomputable def s85:Str:=sn (nat_lit 68794272)
noncomputable def s86:Str:=sn (nat_lit 122623139153978465252512)
noncomputable def uW:Str:=sn (nat_lit 31098418921)
noncomputable def yM:Str:=sn (nat_lit 236714308)
noncomputable def di:Str:=sn (nat_lit 0)
noncomputable def uX:Str:=sn (nat_lit 7482)
noncomputable def rQ:Str:=sn (nat_lit 31083740404)
noncomputable def yN:Str:=sn (nat_lit 3978729042166)
noncomputable def pE:Str:=sn (nat_lit 242842101)
noncomputable def Dg:Str:=sn (nat_lit 27321202803)
noncomputable def kz:Str:=sn (nat_lit 1652717)
noncomputable def nF:Str:=sn (nat_lit 509205376711408)
noncomputable def nG:Str:=sn (nat_lit 3978710003956)
noncomputable def rR:Str:=sn (nat_lit 31100336745)
noncomputable def s99:Str:=sn (nat_lit 30815369061)
noncomputable def Mm:Str:=sn (nat_lit 1669621)
noncomputable def BU:Str:=sn (nat_lit 448145974162148)
noncomputable def kh:Str:=sn (nat_lit 27359129846)
noncomputable def BV:Str:=sn (nat_lit 15396039174780802773349092)
noncomputable def acy:Str:=sn (nat_lit 286986713580972883715137812325)
noncomputable def gR:Str:=sn (nat_lit 14182)
noncomputable def ue:Str:=sn (nat_lit 31381501923)
noncomputable def acz:Str:=sn (nat_lit 62372400349051369)
noncomputable def acA:Str:=sn (nat_lit 2363183704070255732)
noncomputable def oZ:Str:=sn (nat_lit 251994835147975468636092298400)
noncomputable def acB:Str:=sn (nat_lit 4973673526586899164656756)
noncomputable def xN:Str:=sn (nat_lit 513979226829046)
noncomputable def acC:Str:=sn (nat_lit 226177271)
noncomputable def acD:Str:=sn (nat_lit 29749801698)
noncomputable def acE:Str:=sn (nat_lit 236550771)
noncomputable def Mn:Str:=sn (nat_lit 170242261335343594468824457573906414)
noncomputable def acF:Str:=sn (nat_lit 141968684086581110492737156127723166296182881)
noncomputable def o4:Str:=sn (nat_lit 27356854627)
noncomputable def eR:Str:=sn (nat_lit 215692019)
noncomputable def BW:Str:=sn (nat_lit 30815304435)
noncomputable def acG:Str:=sn (nat_lit 192316727414979279378494544710726322209483465819693990212233950324)
noncomputable def Mo:Str:=sn (nat_lit 27344500291)
noncomputable def Mp:Str:=sn (nat_lit 255604675)
noncomputable def Mq:Str:=sn (nat_lit 513915859088068)
noncomputable def Mr:Str:=sn (nat_lit 1882437)
noncomputable def Ms:Str:=sn (nat_lit 213628878)
noncomputable def Mt:Str:=sn (nat_lit 13775)
noncomputable def Mu:Str:=sn (nat_lit 3809589672015)
noncomputable def Mv:Str:=sn (nat_lit 1951475151058)
noncomputable def Mw:Str:=sn (nat_lit 4014967943890)
noncomputable def Mx:Str:=sn (nat_lit 213612499)
noncomputable def My:Str:=sn (nat_lit 119075542)
noncomputable def Mz:Str:=sn (nat_lit 443305285942259)
noncomputable def BX:Str:=sn (nat_lit 447704102318307)
noncomputable def MA:Str:=sn (nat_lit 529078638406547034771536272588338336)
noncomputable def acH:Str:=sn (nat_lit 3398897760745)
noncomputable def acI:Str:=sn (nat_lit 38727732666238611584116)
noncomputable def BY:Str:=sn (nat_lit 483436900383209)
noncomputable def BZ:Str:=sn (nat_lit 68560589453848808)
noncomputable def MC:Str:=sn (nat_lit 3944329476846)
noncomputable def B0:Str:=sn (nat_lit 3982751414243)
noncomputable def rn:Str:=sn (nat_lit 3978703747042)
noncomputable def acJ:Str:=sn (nat_lit 38801560746194300925044)
noncomputable def MD:Str:=sn (nat_lit 31083688174)
noncomputable def B1:Str:=sn (nat_lit 213725420)
noncomputable def acK:Str:=sn (nat_lit 7341403567686349044)
noncomputable def acL:Str:=sn (nat_lit 1077532315183365157108)
noncomputable def B2:Str:=sn (nat_lit 487315524481268)
noncomputable def acM:Str:=sn (nat_lit 1078260195694883827956)
noncomputable def acN:Str:=sn (nat_lit 7845753571436589300)
noncomputable def acO:Str:=sn (nat_lit 17498617583099043156423779)
noncomputable def acP:Str:=sn (nat_lit 140565193452082654577350153024708055995846753)
noncomputable def acQ:Str:=sn (nat_lit 3807976961271)
noncomputable def xO:Str:=sn (nat_lit 3463318173807)
noncomputable def dH:Str:=sn (nat_lit 3978441618662)
noncomputable def acR:Str:=sn (nat_lit 302414911016034464884)
noncomputable def ro:Str:=sn (nat_lit 7341403567684270068)
noncomputable def acS:Str:=sn (nat_lit 79928063983025208961594516672810095125709780667381629793011)
noncomputable def acT:Str:=sn (nat_lit 1078405432590980559603)
noncomputable def xP:Str:=sn (nat_lit 58140563379853577774861520370757875307625952851276692011061494727129748073035715)
noncomputable def acU:Str:=sn (nat_lit 624625807204251260044037134941823016890618308969688272993)
noncomputable def acV:Str:=sn (nat_lit 3463328822883)
noncomputable def acW:Str:=sn (nat_lit 2106078437612789897472014708)
noncomputable def acX:Str:=sn (nat_lit 17507896080373807253648483)
noncomputable def acY:Str:=sn (nat_lit 9623582441)
noncomputable def acZ:Str:=sn (nat_lit 347723876804590086226232323391163485257324622439005210804878917756598688)
noncomputable def ac0:Str:=sn (nat_lit 24414129947940459852264842354083027191727916681763981023832088015904)
noncomputable def ac1:Str:=sn (nat_lit 1817330)
noncomputable def fJ:Str:=sn (nat_lit 109)
noncomputable def o5:Str:=sn (nat_lit 69)
noncomputable def lB:Str:=sn (nat_lit 145661293)
noncomputable def gS:Str:=sn (nat_lit 3809589457650)
noncomputable def cM:Str:=sn (nat_lit 84)
noncomputable def lC:Str:=sn (nat_lit 12455)
noncomputable def fg:Str:=sn (nat_lit 232354547)
noncomputable def o6:Str:=sn (nat_lit 57367564599687657)
noncomputable def dW:Str:=sn (nat_lit 65789343989217251)
noncomputable def hZ:Str:=sn (nat_lit 137953237979946068799720)
noncomputable def B3:Str:=sn (nat_lit 211498231)
noncomputable def o7:Str:=sn (nat_lit 28932044386)
noncomputable def fh:Str:=sn (nat_lit 83)
noncomputable def ME:Str:=sn (nat_lit 120)
noncomputable def xQ:Str:=sn (nat_lit 120160501073825582642406)
noncomputable def iP:Str:=sn (nat_lit 6264)
noncomputable def xR:Str:=sn (nat_lit 8665080815842662709648364906409472374766)
noncomputable def MF:Str:=sn (nat_lit 4184606291918)
noncomputable def xS:Str:=sn (nat_lit 286696902045481018964408268788)
noncomputable def xT:Str:=sn (nat_lit 4940311124277829873635884107690738)
noncomputable def MG:Str:=sn (nat_lit 15655)
noncomputable def ju:Str:=sn (nat_lit 14676)
noncomputable def m5:Str:=sn (nat_lit 14311)
noncomputable def xU:Str:=sn (nat_lit 15243586061793701326895727)
noncomputable def MH:Str:=sn (nat_lit 213612515)
noncomputable def xV:Str:=sn (nat_lit 632359823907562223825344583526232807)
noncomputable def MI:Str:=sn (nat_lit 90)
noncomputable def xW:Str:=sn (nat_lit 228341481)
noncomputable def uf:Str:=sn (nat_lit 75)
noncomputable def B4:Str:=sn (nat_lit 72)
noncomputable def MJ:Str:=sn (nat_lit 104)
noncomputable def B5:Str:=sn (nat_lit 87)
noncomputable def B6:Str:=sn (nat_lit 48)
noncomputable def B7:Str:=sn (nat_lit 86)
noncomputable def B8:Str:=sn (nat_lit 245004149)
noncomputable def rq:Str:=sn (nat_lit 102)
noncomputable def xX:Str:=sn (nat_lit 301532661393910514748267115251)
noncomputable def B9:Str:=sn (nat_lit 27321334772)
noncomputable def h9:Str:=sn (nat_lit 815015)
noncomputable def xY:Str:=sn (nat_lit 2143092438338103654357662185)
noncomputable def o8:Str:=sn (nat_lit 151952749)
noncomputable def MK:Str:=sn (nat_lit 380240579698029)
noncomputable def ML:Str:=sn (nat_lit 384638626209133)
noncomputable def ug:Str:=sn (nat_lit 214867309)
noncomputable def xZ:Str:=sn (nat_lit 130970690852082058802921)
noncomputable def MM:Str:=sn (nat_lit 1031249136154033534697)
noncomputable def MN:Str:=sn (nat_lit 3841702410580)
noncomputable def MO:Str:=sn (nat_lit 1962694)
noncomputable def MP:Str:=sn (nat_lit 14945)
noncomputable def Ca:Str:=sn (nat_lit 831399)
noncomputable def MQ:Str:=sn (nat_lit 6392)
noncomputable def jv (x:Str) (l:List Str):Bool:=aeC false (λa c b=>aen b true (seq a x)) l
noncomputable def HN:aJ:=dF 11 [] none
noncomputable def HO:aJ:=dF 12 [] none
noncomputable def HP:aJ:=dM 13 0 [] none
noncomputable def HQ:aJ:=dM 13 1 [] none
noncomputable def qR:aJ:=dF 14 [.int 0] (some (148,"elided.<locals>."))
noncomputable def HR:aJ:=dF 16 [] none
noncomputable def HS:aJ:=dM 17 0 [] none
noncomputable def HU:aJ:=dM 17 1 [] none
noncomputable def HV:aJ:=dM 17 2 [] none
noncomputable def HW:aJ:=dM 17 3 [] none
noncomputable def HX:aJ:=dM 17 4 [] none
noncomputable def HY:aJ:=dM 17 5 [] none
noncomputable def HZ:aJ:=dM 17 6 [] none
noncomputable def H0:aJ:=dF 18 [.none] none
noncomputable def H2:aJ:=dF 19 [] none
noncomputable def H3:aJ:=dF 20 [] none
noncomputable def H4:aJ:=dF 21 [] none
noncomputable def H5:aJ:=dF 24 [] none
noncomputable def H6:aJ:=dF 25 [] none
noncomputable def H7:aJ:=dF 26 [] none
noncomputable def H8:aJ:=dF 27 [] none
noncomputable def H9:aJ:=dF 28 [] none
noncomputable def Ia:aJ:=dF 29 [] none
noncomputable def Ib:aJ:=dF 32 [] none
noncomputable def qS:aJ:=dF 33 [] (some (304,"fields_of.<locals>."))
noncomputable def Ic:aJ:=dF 36 [] none
noncomputable def Ie:aJ:=dF 37 [] none
noncomputable def Ig:aJ:=dM 38 0 [] none
noncomputable def Ih:aJ:=dM 38 1 [] none
noncomputable def Ii:aJ:=dM 38 2 [] none
noncomputable def Ij:aJ:=dF 40 [] none
noncomputable def Ik:aJ:=dM 41 0 [] none
noncomputable def Il:aJ:=dM 41 1 [] none
noncomputable def qT:aJ:=dF 42 [] (some (394,"is_like.<locals>."))
noncomputable def Im:aJ:=dF 43 [] none
noncomputable def Io:aJ:=dF 44 [] none
noncomputable def Ip:aJ:=dF 49 [] none
noncomputable def Iq:aJ:=dF 51 [] none
noncomputable def Ir:aJ:=dM 53 0 [] none
noncomputable def It:aJ:=dM 53 1 [] none
noncomputable def Iu:aJ:=dM 53 2 [] none
noncomputable def Iv:aJ:=dM 54 0 [] none
noncomputable def Iw:aJ:=dM 54 1 [] none
noncomputable def Iy:aJ:=dM 54 2 [] none
noncomputable def Iz:aJ:=dM 54 3 [] none
noncomputable def IA:aJ:=dM 54 4 [] none
noncomputable def IB:aJ:=dM 54 6 [] none
noncomputable def IC:aJ:=dM 54 7 [.int 0] none
noncomputable def ID:aJ:=dM 54 8 [] none
noncomputable def IE:aJ:=dM 54 9 [] none
noncomputable def IF:aJ:=dM 54 10 [] none
noncomputable def IG:aJ:=dM 54 11 [] none
noncomputable def IH:aJ:=dM 54 14 [] none
noncomputable def II:aJ:=dM 57 0 [.str di,.tup []] none
noncomputable def IJ:aJ:=dM 58 0 [] none
noncomputable def IK:aJ:=dM 59 0 [] none
noncomputable def IL:aJ:=dM 60 0 [.int 0] none
noncomputable def IM:aJ:=dM 61 0 [.none] none
noncomputable def IP:aJ:=dM 61 1 [] none
noncomputable def IQ:aJ:=dM 62 0 [] none
noncomputable def IS:aJ:=dM 62 1 [] none
noncomputable def IT:aJ:=dM 62 2 [] none
noncomputable def IU:aJ:=dM 63 0 [] none
noncomputable def IV:aJ:=dM 63 1 [] none
noncomputable def IW:aJ:=dM 63 2 [] none
noncomputable def IX:aJ:=dM 63 3 [] none
noncomputable def IY:aJ:=dM 63 4 [] none
noncomputable def IZ:aJ:=dM 63 5 [] none
noncomputable def I0:aJ:=dM 63 6 [] none
noncomputable def I1:aJ:=dM 63 7 [] none
noncomputable def qU:aJ:=dM 63 8 [] (some (817,"Collector.take_const.<locals>."))
noncomputable def I2:aJ:=dM 63 9 [] none
noncomputable def I3:aJ:=dM 63 10 [] none
noncomputable def I4:aJ:=dM 63 11 [] none
noncomputable def I5:aJ:=dM 63 12 [] none
noncomputable def I6:aJ:=dM 63 13 [] none
noncomputable def I7:aJ:=dF 64 [] none
noncomputable def I8:aJ:=dF 65 [] none
noncomputable def jl:aJ:=dF 67 [] none
noncomputable def oA:aJ:=dF 68 [] none
noncomputable def I9:aJ:=dF 69 [] none
noncomputable def Ja:aJ:=dF 72 [.tup [],.tup []] none
noncomputable def Jb:aJ:=dF 73 [] none
noncomputable def Jc:aJ:=dF 74 [] none
noncomputable def Jd:aJ:=dF 75 [] none
noncomputable def Je:aJ:=dF 76 [] none
noncomputable def Jf:aJ:=dF 77 [] none
noncomputable def Jg:aJ:=dF 78 [] none
noncomputable def Jh:aJ:=dF 79 [] none
noncomputable def Ji:aJ:=dF 80 [] none
noncomputable def tH:aJ:=dF 81 [] none
noncomputable def fG:aJ:=dF 82 [] none
noncomputable def oB:List (Nat×aJ):=(110,HN)::(115,HO)::(129,HP)::(136,HQ)::(149,qR)::(163,HR)::(177,HS)::(182,HU)::(189,HV)::(194,HW)::(201,HX)::(208,HY)::(213,HZ)::(228,H0)::(233,H2)::(238,H3)::(243,H4)::(250,H5)::(257,H6)::(262,H7)::(267,H8)::(274,H9)::(281,Ia)::(300,Ib)::(305,qS)::(310,Ic)::(315,Ie)::(329,Ig)::(336,Ih)::(343,Ii)::(362,Ij)::(376,Ik)::(383,Il)::(395,qT)::(402,Im)::(409,Io)::(418,Ip)::(432,Iq)::(467,Ir)::(474,It)::(479,Iu)::(500,Iv)::(507,Iw)::(514,Iy)::(519,Iz)::(526,IA)::(540,IB)::(548,IC)::(555,ID)::(562,IE)::(569,IF)::(576,IG)::(598,IH)::(623,II)::(644,IJ)::(665,IK)::(687,IL)::(709,IM)::(716,IP)::(737,IQ)::(742,IS)::(749,IT)::(770,IU)::(775,IV)::(782,IW)::(789,IX)::(794,IY)::(799,IZ)::(804,I0)::(811,I1)::(818,qU)::(823,I2)::(830,I3)::(837,I4)::(844,I5)::(849,I6)::(863,I7)::(870,I8)::(877,jl)::(884,oA)::(891,I9)::(904,Ja)::(911,Jb)::(916,Jc)::(923,Jd)::(928,Je)::(933,Jf)::(938,Jg)::(943,Jh)::(948,Ji)::(955,tH)::(962,fG)::[]
noncomputable def Ad:List (Str×O):=("_wall",.glob 21)::("LendError",.glob 39)::("NameFault",.glob 52)::("VisibilityFault",.glob 64)::("TypeFault",.glob 76)::("TraitFault",.glob 88)::("CoherenceFault",.glob 100)::("INT_KINDS",.tup [.str C4,.str C5,.str C6,.str C7,.str dX,.str C8,.str C9,.str Dc,.str Dd])::("STATIC",.str gw)::("regions_of",.glob 110)::("regions_turned",.glob 115)::("Namer",.glob 139)::("elided",.glob 149)::("only_region",.glob 156)::("check_regions",.glob 163)::("Reader",.glob 216)::("type_of",.glob 228)::("is_told",.glob 233)::("trait_of",.glob 238)::("bounds_of",.glob 243)::("DROP",.str yM)::("parts_of",.glob 250)::("rebuilt",.glob 257)::("substituted",.glob 262)::("with_regions",.glob 267)::("no_region",.glob 274)::("erased",.glob 281)::("region_text",.glob 288)::("type_text",.glob 293)::("field_rows",.glob 300)::("fields_of",.glob 305)::("MOST_DEEP",.int 40)::("whole_of",.glob 310)::("field_types",.glob 315)::("Holder",.glob 346)::("check_drop",.glob 355)::("told_types",.glob 362)::("Renaming",.glob 386)::("is_like",.glob 395)::("check_methods",.glob 402)::("check_rules",.glob 409)::("PRELUDE_NAMES",.tup [.str Mo,.str Mp,.str Mq,.str yM,.str Mr,.str Ms,.str Mt,.str Mu,.str Mv,.str Mw,.str Mx,.str My,.str Mz])::("MOST_USES",.int 30)::("WAYS",.tup [.str o4,.str eR,.str BW])::("joined",.glob 418)::("parent_of",.glob 425)::("is_within",.glob 432)::("Use",.glob 449)::("Table",.glob 482)::("Modules",.glob 601)::("UNIT",.tup [.str s3,.tup []])::("Adt",.glob 626)::("Sig",.glob 647)::("TraitRow",.glob 668)::("ImplRow",.glob 690)::("World",.glob 719)::("Scope",.glob 752)::("Collector",.glob 852)::("names_within",.glob 863)::("collect",.glob 870)::("_law_pool",.glob 877)::("_law_take",.glob 884)::("_law_one",.glob 891)::("_law_none",.tup [.tup [],.tup []])::("_law_block",.tup [.str o7,.int 0,.tup [],.none])::("_law_path",.glob 904)::("_law_type",.glob 911)::("_law_drawn",.glob 916)::("_law_generics",.glob 923)::("_law_fn",.glob 928)::("_law_program",.glob 933)::("_law_sig_right",.glob 938)::("_law_types_right",.glob 943)::("_law_rest_right",.glob 948)::("_law_refused",.glob 955)::("law",.glob 962)::[]
noncomputable def F6:List Str:=["max","len","tuple","list","int","sorted","all","str","isinstance","range","enumerate","zip","reversed","dict"]
noncomputable def vQ:List (Nat×List (Str×Nat)):=[(139,[("turn",136)]),(216,[("read",182),("unknown",189),("path",194),("single",201),("bare",208),("named",213)]),(346,[("look",336),("look_at_adt",343)]),(386,[("fits",383)]),(449,[]),(482,[("space",474),("is_taken",479)]),(601,[("enter",507),("declare",514),("declare_type",519),("enter_variants",526),("can_see",540),("find",548),("walk",555),("begin",562),("step",569),("look",576),("checked_uses",598)]),(626,[]),(647,[]),(668,[]),(690,[]),(719,[("is_field_seen",716)]),(752,[("names",742),("within",749)]),(852,[("run",775),("told_type",782),("opened",789),("take_type",794),("fields",799),("take_fn",804),("self_input",811),("take_const",818),("take_trait",823),("take_impl",830),("check_params",837),("closed",844),("trait_of_impl",849)])]
noncomputable def sz:List (Nat×List Str):=[(139,["given"]),(216,["modules","module","generics","self_type","fresh"]),(346,["world","open","done"]),(386,["known","found"]),(449,["names","is_pub","spot"]),(482,["types","values","uses"]),(601,["kinds","publics","tables","generics","items"]),(626,["path","module","regions","params","variants","publics","is_enum"]),(647,["path","regions","params","own","inputs","output","self_kind","has_body"]),(668,["path","params","methods","defaults"]),(690,["number","regions","params","trait","trait_args","self_type","methods","spot"]),(719,["modules","adts","variants","sigs","traits","impls","consts","bodies"]),(752,["module","regions","params","self_type"]),(852,["items","modules","world","late"])]
noncomputable def sA:List (Nat×Nat):=[(139,129),(216,177),(346,329),(386,376),(482,467),(601,500),(626,623),(647,644),(668,665),(690,687),(719,709),(752,737),(852,770)]
noncomputable def cO:Gl:=⟨λx=>bw x Ad,λx=>jv x F6,λa=>lk a oB,λC n=>aD none (lk C vQ) (bw n),λC n=>aD false (lk C sz) (jv n),λC=>lk C sA⟩
noncomputable def kids (e:aeD):List Expr:=afB (motive_1:=λb=>List aeD) e (λb b b=>[]) (λb b b=>[]) (λb b b b=>[]) (λb b b=>[]) (λb b b b=>[]) (λb b b b=>[]) (λb b b=>[]) (λb b b=>[]) (λb b b b=>[]) (λb b b b=>[]) (λb b b b b=>[]) (λb b b b=>[]) (λb b=>[]) (λb b=>[]) (λb b=>[]) (λb b b b=>[]) (λb a b b=>a) (λb b b b=>[]) (λb b=>[]) (λb b b=>[]) (λb b b=>[]) (λb b b=>[]) (λb b=>[]) (λb b=>[]) (λb b=>[]) (λa b b=>a) (λb b b b=>[])
noncomputable def A7 (e:aeD):Option (aeD×aft):=afB (motive_1:=λa=>Option (aeD×aft)) e (λa a a=>none) (λa a a=>none) (λa a a a=>none) (λa a a=>none) (λa b sc a=>some (b,sc)) (λa a a a=>none) (λa a a=>none) (λa a a=>none) (λa a a a=>none) (λa a a a=>none) (λa a a a a=>none) (λa a a a=>none) (λa a=>none) (λa a=>none) (λa a=>none) (λa a a a=>none) (λa a a a=>none) (λa a a a=>none) (λa a=>none) (λa a a=>none) (λa a a=>none) (λa a a=>none) (λa a=>none) (λa a=>none) (λa a=>none) (λa a a=>none) (λa a a a=>none)
noncomputable def Cb (s:afu):Option Expr:=Stmt.casesOn (motive_2:=λa=>Option aeD) s (λa a a a a a a a a a=>none) (λa a a a a a a a a a=>none) (λa a a a a a a a a a a=>none) (λe a=>e) (λa a=>none) (λa e a=>some e) (λa a a a a a a=>none) (λa a a a=>none) (λa a a a a=>none) (λa a a a a=>none) (λa a a a a=>none) (λa a a a=>none) (λa a a a=>none) (λa a a=>none) (λa a a=>none) (λa a a=>none) (λa a a=>none) (λa a a a a=>none) (λa a a a a=>none) (λa a a=>none) (λa a=>none) (λa a a a=>none) (λa a=>none) (λa a=>none) (λa a=>none) (λa=>none) (λa=>none) (λa=>none)
noncomputable def Zf (s:afu):List Stmt:=Stmt.casesOn (motive_2:=λa=>List afu) s (λa a a a a a a a a a=>[]) (λa a a a a a a a a a=>[]) (λa a a a a a a a a a a=>[]) (λa a=>[]) (λa a=>[]) (λa a a=>[]) (λa a a a a a a=>[]) (λa a a a=>[]) (λa a a a a=>[]) (λa a b a a=>b) (λa a a a a=>[]) (λa a a a=>[]) (λa a a a=>[]) (λa a a=>[]) (λa a a=>[]) (λa a a=>[]) (λa a a=>[]) (λa a a a a=>[]) (λa a a a a=>[]) (λa a a=>[]) (λa a=>[]) (λa a a a=>[]) (λa a=>[]) (λa a=>[]) (λa a=>[]) (λa=>[]) (λa=>[]) (λa=>[])
noncomputable def x9 (l:List afu):Option (aeD×aft):=aD none (l[4]?) λs=>aD none (Cb s) λe=>aD none ((kids e)[1]?) λc=>aD none ((kids c)[1]?) A7
noncomputable def ya (l:List afu):Option (aeD×aft):=aD none (l[1]?) λs=>aD none (Cb s) λc=>aD none ((kids c)[1]?) A7
noncomputable def yb (l:List afu):Option (aeD×aft):=aD none (l[6]?) λs=>aD none ((Zf s)[0]?) λs=>aD none (Cb s) λc=>aD none ((kids c)[1]?) A7
noncomputable def yc (l:List afu):Option (List afu×aft):=match (l[5]?:Option afu)with
 |some (.FunctionDef a c b d e f sc g h i)=>some (b,sc)
 |_=>none
noncomputable def o9 (o:Option (aeD×aft)):Option mS:=aD none o λp=>some ⟨"region",.expr p.1,p.2⟩
noncomputable def Cc (o:Option (List afu×aft)):Option mS:=aD none o λp=>some ⟨"region",.stmts p.1,p.2⟩
noncomputable def kX (i:Nat):Option mS:=lk i [(0,o9 (x9 qR.body)),(1,o9 (ya qU.body)),(2,o9 (yb qT.body)),(3,Cc (yc qS.body))] |>.bind id
section
set_option backward.match.sparseCases true
noncomputable def lD (K:afM) (a:Nat):Option Obj:=aeC none (λe c b=>aen b (some e.2) (aem e.1 a)) K
theorem Vt{K:afM}{a:Nat}:lD K a=K.lookup a:=by
 induction K with
 |nil=>rfl
 |cons e r c=>
  obtain⟨b,o⟩:=e;show aen (motive:=λd=>Option Obj) (lD r a) (some o) (aem b a)=_
  rw[afq];induction q:aem b a using aee with
  |true=>rw[aed q,beq_self_eq_true]
  |false=>rw[show (a ==b)=false from beq_eq_false_iff_ne.mpr λz=>(by rw[z,afz]at q;exact gr q)];exact c
theorem w6{K:afM}{a:Nat}{o}(h:lD K a=o):K.lookup a=o:=Vt▸h
theorem toL (h:vals.length=n):∃ f:Nat->aec,vals=(afT n).map f:=by
 refine⟨λi=>vals.getD i .none,List.ext_getElem? λi=>?_⟩
 rw[af1];by_cases q:i<n
 ·rw[List.getElem?_range q,aeN (by omega)]
  simp[List.getD,show i<vals.length by omega]
 ·rw[List.getElem?_eq_none (by omega),List.getElem?_eq_none (by simpa using q)]
  rfl
noncomputable def Vu(i:Nat):Pos:=(([⟨nat_lit 8,nat_lit 8,nat_lit 8,nat_lit 17⟩,⟨nat_lit 8,nat_lit 8,nat_lit 8,nat_lit 26⟩,⟨nat_lit 8,nat_lit 27,nat_lit 8,nat_lit 31⟩,⟨nat_lit 8,nat_lit 33,nat_lit 8,nat_lit 40⟩,⟨nat_lit 8,nat_lit 8,nat_lit 8,nat_lit 41⟩,⟨nat_lit 8,nat_lit 8,nat_lit 8,nat_lit 41⟩,⟨nat_lit 9,nat_lit 8,nat_lit 9,nat_lit 12⟩,⟨nat_lit 9,nat_lit 8,nat_lit 9,nat_lit 20⟩,⟨nat_lit 9,nat_lit 23,nat_lit 9,nat_lit 30⟩,⟨nat_lit 9,nat_lit 8,nat_lit 9,nat_lit 30⟩,⟨nat_lit 10,nat_lit 8,nat_lit 10,nat_lit 12⟩,⟨nat_lit 10,nat_lit 8,nat_lit 10,nat_lit 17⟩,⟨nat_lit 10,nat_lit 20,nat_lit 10,nat_lit 24⟩,⟨nat_lit 10,nat_lit 8,nat_lit 10,nat_lit 24⟩]:List Pos)[i]?).getD ⟨0,0,0,0⟩
variable{W:Wd}
noncomputable def MR (v:aec):Option Int:=aff (motive:=λW=>Option Int) v none none none (λW=>none) (λi W=>some i) (λW W=>none) (λW W=>none) (λW W=>none) (λW=>none) (λW=>none) (λW=>none)
noncomputable def MS (v:aec):Option Str:=aff (motive:=λW=>Option Str) v none none none (λW=>none) (λW W=>none) (λW W=>none) (λx W=>some x) (λW W=>none) (λW=>none) (λW=>none) (λW=>none)
noncomputable def Cd (v:aec):Option Addr:=aff (motive:=λW=>Option aep) v none none none (λW=>none) (λW W=>none) (λW W=>none) (λW W=>none) (λW W=>none) (λW=>none) (λW=>none) some
theorem Vv(h:MR v=some i):∃ t,v=.int i t:=by induction v using aff with
 |int j t=>exact⟨t,by rw[aea h]⟩
 |_=>exact aT h
theorem Vx(h:MS v=some x):∃ t,v=.str x t:=by induction v using aff with
 |str j t=>exact⟨t,by rw[aea h]⟩
 |_=>exact aT h
theorem F7(h:Cd v=some x):v=.ref x:=by induction v using aff with
 |ref j=>rw[aea h]
 |_=>exact aT h
noncomputable def MT (d:Data):Option (Array aec):=match d with
 |.seq W a=>some W
 |_=>none
theorem Vy(h:MT d=some vs):∃ k,d=.seq vs k:=by induction d using ah1 with
 |seq W k=>exact⟨k,by rw[aea h]⟩
 |_=>exact aT h
noncomputable def rS (f:aec->O->Bool) (ws:List aec):List O->Bool:=aeC (motive:=λW=>List O->Bool) (λl=>l.isEmpty) (λv W r l=>aet (motive:=λW=>Bool) l false λa l=>and (and (f v a) a.sure) (r l)) ws
theorem Fe{f:aec->O->Bool}(h:rS f (w::ws) l=true):∃ a r,l=a::r/\f w a=true/\a.sure=true/\rS f ws r=true:=by
 induction l using aet with
 |nil=>exact aX h
 |cons a r=> refine ae (ad9.mp h) ?_;clear h;intro W b;refine ae (ad9.mp W) ?_;clear W;intro c d;exact (pY a r rfl c d b)
theorem GP{f:aec->O->Bool}(b:∀ v a,f v a=true->VR T α N v a):∀ {l:List O},rS f ws l=true->ah T α N ws l:=by
 induction ws with
 |nil=>intro l q;rw[aim.mp q];exact .nil
 |cons w ws W=> intro l q;refine eI (Fe q) ?_;clear q;intro a r c d g e;subst c;exact .cons (b _ _ d) (W e)
theorem EA{f:aec->O->Bool}:∀ {l:List O},rS f ws l=true->aeS l=true/\ws.length=l.length:=by
 induction ws with
 |nil=>intro l q;rw[aim.mp q];exact ⟨rfl,rfl⟩
 |cons w ws W=> intro l q;refine eI (Fe q) ?_;clear q;intro a r c h d b;subst c;refine ae (W b) ?_;clear W b;intro e g;exact ⟨ad9.mpr ⟨d,e⟩,congrArg (·+1) g⟩
noncomputable def kv1 (K:afM) (d:aec->O->Bool) (v:aec) (a:O):Bool:=O.casesOn (motive_1:=λW=>Bool) a (v ==.none) (λb=>v ==.bool b) (λi=>aD false (MR v) λj=>decide (i=j)) (λx=>aD false (MS v) λy=>and (x ==y) (afg x))
 (λl=>aD false (Cd v) λc=>aD false (lD K c) λo=>aD false (MT o.data) λe=>and (and (o.cls ==.type "tuple") (o.dict ==none)) (rS d e.toList l)) (λW=>false) (λW W=>false) (λW=>false) (λb=>aD false (Cd v) λc=>aem b c) (λW W=>false) (λW W=>false) (λW W=>false) false (λW=>false)
noncomputable def kv (K:afM) (n:Nat):aec->O->Bool:=afX (motive:=λW=>aec->O->Bool) (λW W=>false) (λW a=>kv1 K a) n
theorem Jj{K:afM}(m:T.K=K){n}:∀ {v a},kv K n v a=true->VR T α N v a:=by
 induction n with
 |zero=>exact λh=>nomatch h
 |succ n o=>
  intro v a h;induction a using O.casesOn with
  |none=>rw[show v=.none from beq_iff_eq.mp h];exact .none
  |bool b=>rw[show v=.bool b from beq_iff_eq.mp h];exact .bool _
  |int i=>
   refine Y (aR h nofun) ?_;clear h;intro j e h;refine aL (Vv e) ?_;intro t W;subst W;rw[of_decide_eq_true h];exact .int _ _
  |str x=>
   refine Y (aR h nofun) ?_;clear h;intro y e h;refine aL (Vx e) ?_;intro t W;subst W;refine ae (ad9.mp h) λd f=>?_
   rw[←beq_iff_eq.mp d];exact .str _ f
  |glob b=>
   refine Y (aR h nofun) ?_;clear h;intro c e h;rw[F7 e,aed h];exact .glob _
  |tup l=>
   refine Y (aR h nofun) ?_;clear h;intro c e h;refine Y (aR h nofun) ?_;clear h;intro W p h;obtain⟨q,r,s,u⟩:=W;refine Y (aR h nofun) ?_;clear h;intro w g h;refine ae (ad9.mp h) λd f=>?_
   refine ae (ad9.mp d) ?_;clear d;intro z A;refine aL (Vy g) ?_;clear g;intro k hk;have B:q=_:=beq_iff_eq.mp z;have C:r=_:=beq_iff_eq.mp A;have D:s=_:=hk;subst B C D;rw[F7 e];exact .tupK (vs:=w.toList) (n:=k) (sl:=u) (by rw[aiw,m];exact w6 p) (GP (λE E=>o) f)
  |_=>exact aX h
theorem F8{α:Type}{v:α}:∀ {l:List (Str×α)},bw x l=some v->(x,v)∈l:=by
 intro l h;rw[sG]at h;exact lookup_mem h
theorem Ff:jv x l=true->x∈l:=by
 induction l with
 |nil=>exact λh=>nomatch h
 |cons a l b=>
  intro h;have W:(aen (motive:=λc=>Bool) (jv x l) true (seq a x))=true:=h
  induction q:seq a x using aee with
  |true=>rw[gG.mp q];exact .head _
  |false=>rw[q]at W;exact .tail _ (b W)
noncomputable def Ce (K:afM):Bool:=Ad.all λe=>match nsIn K ae1 e.1 with
 |some (some val)=>kv K 6 val e.2
 |_=>false
noncomputable def Jk(K:afM):Bool:=F6.all λx=>nsIn K ae1 x ==some none&&!(x =="__name__")
noncomputable def Jl (K:afM):Bool:=(oB.all λe=>keepIn K (.ref e.1))&&sA.all λe=>keepIn K (.ref e.1)
noncomputable def Jm (K:afM):Bool:=vQ.all λe=>e.2.all λp=>ajm K e.1 p.1&&(agj K (.ref e.1) p.1 ==some (some (.ref p.2)))&&isFn K (.ref p.2)&&(lk p.2 oB).isSome
noncomputable def Cf (K:afM):Bool:=sz.all λe=>e.2.all λx=>ajm K e.1 x&&hasDictIn K e.1&&(match agj K (.ref e.1) x with|some W=>noGet K W|none=>false)&&
 (agj K (.ref e.1) "__setattr__" ==some (some (.builtin "object.__setattr__")))&&plainOver K e.1&&(takerIn K e.1 x ==some none)
noncomputable def Jn (K:afM):Bool:=sA.all λe=>makesIn K e.1&&(agj K (.ref e.1) "__init__" ==some (some (.ref e.2)))&&isFn K (.ref e.2)
noncomputable def Jo (fd:aJ):Bool:=(fd.params.all λx=>fd.scope.names.lookup x ==some .local ||fd.scope.names.lookup x ==some .cell)&&!fd.scope.isCoroutine&&!fd.scope.isGenerator&&decide (fd.scope.kind=.function)&&decide ((afF 0 fd.scope.names []).map (·.1)).Nodup&&decide (fd.scope.names.map (·.1)).Nodup
noncomputable def Dh(fd:aJ)(a:aec)(b:Str):Bool:=match fd.code with
 |none=>true
 |some x=>a ==.ref x.1&&(b++".<locals>." :Str) ==x.2
noncomputable def yO (K:afM) (l:List O) (a:List aec):Bool:=rS (kv K 6) a l
theorem W7{K:afM}(b:T.K=K){a:List aec}(h:yO K l a=true):ah T α N a l:=GP (λW W=>Jj b) h
theorem Rq{K:afM}{a:List aec}(h:yO K l a=true):aeS l=true:=(EA h).1
theorem ah.Zg (h:ah T α N vs l):aeS l=true->∀ n,ah T α N (vs.drop n) (l.drop n)/\aeS (l.drop n)=true:=
 ah.ind (P:=λvs l=>aeS l=true->∀ n,ah T α N (vs.drop n) (l.drop n)/\aeS (l.drop n)=true) (λW n=>by rw[List.drop_nil,List.drop_nil];exact⟨.nil,rfl⟩) (λh r a p n=>by induction n using aez with
   |zero=>exact⟨.cons h r,p⟩
   |succ n=>exact a (gB p).2 n) (λW W W W=>iu) (λW W W=>iu) h
theorem ah.ac2 (h:ah T α N vs l):aeS l=true->∀ a:List Str,aU T α N (a.zip vs) (a.zip l):=
 ah.ind (P:=λvs l=>aeS l=true->∀ a:List Str,aU T α N (a.zip vs) (a.zip l)) (λW a=>by rw[List.zip_nil_right,List.zip_nil_right];exact .nil) (λh W b p a=>by induction a using aet with
   |nil=>exact .nil
   |cons q a=>exact .cons h (b (gB p).2 a)) (λW W W W=>iu) (λW W W=>iu) h
theorem Rr:aeS (l++r)=true↔aeS l=true/\aeS r=true:=by unfold aeS;rw[List.all_append,ae4]
noncomputable def uh(K:afM)(a:aec):List Value:=match a with
 |.ref c=>(match lD K c with
  |some ⟨b,d,.seq W e,f⟩=>W.toList
  |_=>[])
 |_=>[]
theorem Tw(h:mq fd a=some b):a.length<=fd.params.length/\fd.params.length<=a.length+fd.dh.length:=by
 by_cases c:a.length<=fd.params.length/\fd.params.length<=a.length+fd.dh.length
 ·exact c
 ·exact nomatch(if_neg c).symm.trans h
noncomputable abbrev ui:=Option ((FuncBody×aft×aec×aep×List (Str×aep)×aep)×Bool×((Nat->aec)->Setting->List (Option (List (Str×aec)×List Str×Bool))))
noncomputable def GQ{a:Type}(z:a)(d:Data)(f:ahx->a):a:=match d with
 |.func W=>f W
 |_=>z
noncomputable def Jp{a:Type}(z:a)(d:Data)(f:ClassData->a):a:=match d with
 |.cls W=>f W
 |_=>z
theorem Ru{a:Type}{z y₀:a}{f:ahx->a}(h:GQ z d f=y₀)(b:y₀≠z):∃ fd,d=.func fd/\f fd=y₀:=by induction d using ah1 with
 |func fd=>exact⟨fd,rfl,h⟩
 |_=>exact absurd h.symm b
theorem Tx{a:Type}{z y₀:a}{f:ClassData->a}(h:Jp z d f=y₀)(b:y₀≠z):∃ fd,d=.cls fd/\f fd=y₀:=by induction d using ah1 with
 |cls fd=>exact⟨fd,rfl,h⟩
 |_=>exact absurd h.symm b
noncomputable abbrev lE(f:Nat->aec)(n:Nat):List Value:=(afT n).map f
noncomputable def N6 (K:afM) (D:aJ) (fd:ahx):Bool:=and (codeIn K fd.code fd.qualname) (and (Dh D fd.code fd.qualname) (yO K D.dh (uh K fd.defaults)))
noncomputable def fnS (K:afM)(D:aJ)(fd:ahx)(f:Nat->aec)(S:Setting):List (Option (List (Str×aec)×List Str×Bool)):=(afT (D.dh.length+1)).map λj=>
 (peek K S (agC fd ⟨lE f (D.params.length-j),[]⟩)).map λb=>(b.take (D.params.length-j),(b.drop (D.params.length-j)).map (·.1),(b.drop (D.params.length-j)).map (·.2) ==(uh K fd.defaults).drop ((uh K fd.defaults).length-j))
noncomputable def w7 (K:afM) (e:Nat×aJ):ui:=aD none (lD K e.1) λo=>GQ none o.data λW=>some ((W.body,W.scope,o.cls,W.globals,W.closure,W.builtins),N6 K e.2 W,fnS K e.2 W)
noncomputable def w8 (e:Nat×aJ):ui:=some ((.stmts e.2.body,e.2.scope,.type "function",ae1,[],agG),true,λf W=>(afT (e.2.dh.length+1)).map λj=>some ((e.2.params.take (e.2.params.length-j)).zip (lE f (e.2.params.length-j)),e.2.params.drop (e.2.params.length-j),true))
theorem W8{l:List (Str×aec)}{a:List Str}{vs b:List aec}{n:Nat}(c:l.take n=(a.take n).zip vs)(d:(l.drop n).map (·.1)=a.drop n)(f:(l.drop n).map (·.2)=b)(g:vs.length=(a.take n).length):l=a.zip (vs++b):=by
 have e:l.drop n=(a.drop n).zip b:=by rw[←d,←f,List.zip_map'];exact (List.map_id _).symm
 rw[←List.take_append_drop n l,c,e,←List.zip_append g.symm,List.take_append_drop]
inductive Zh (K:afM) (a:Nat) (D:aJ):Prop
 |mk (name qual:Str) (params:Arguments) (dV kV doc pm:aec) (an:Option aep) (dC ct:aec) (od kl) (ho:lD K a=some ⟨.type "function",od,.func (fnOf name qual params D.body D.scope dV kV doc pm an dC ct),kl⟩) (h1:N6 K D (fnOf name qual params D.body D.scope dV kV doc pm an dC ct)=true) (h2:∀ j,j<D.dh.length+1->∀ f S,peek K S (agC (fnOf name qual params D.body D.scope dV kV doc pm an dC ct) ⟨lE f (D.params.length-j),[]⟩)=some (D.params.zip (lE f (D.params.length-j)++(uh K dV).drop ((uh K dV).length-j))))
theorem Zi{fd:ahx}{a:aec}{D:aJ}(h:(fd.body,fd.scope,a,fd.globals,fd.closure,fd.builtins)=(.stmts D.body,D.scope,.type "function",ae1,[],agG)):a=.type "function" /\fd=fnOf fd.name fd.qualname fd.params D.body D.scope fd.defaults fd.kwdefaults fd.doc fd.pyModule fd.annotations fd.code fd.closureTuple:=by
 obtain⟨name,W,params,body,scope,b,c,d,e,f,g,i,j,k,l⟩:=fd
 cases h
 exact⟨rfl,rfl⟩
theorem bind_eq{o:Option (List (Str×aec))}{D:aJ}{f:Nat->aec}{n:Nat}{a:List aec}(h:o.map (λb=>(b.take n,(b.drop n).map (·.1),(b.drop n).map (·.2) ==a))=some ((D.params.take n).zip (lE f n),D.params.drop n,true)) (c:n<=D.params.length):o=some (D.params.zip (lE f n++a)):=by
 refine Y (afZ.mp h) ?_;clear h;intro l W q;subst W;refine ae (aeZ q) ?_;clear q;intro d q;refine ae (aeZ q) ?_;clear q;intro e g;refine congrArg some (W8 d e (beq_iff_eq.mp g) ?_);rw[ahi,List.length_range,List.length_take,Nat.min_eq_left c]
theorem GR{K:afM}{a:Nat}{D:aJ}(h:w7 K (a,D)=w8 (a,D)):Zh K a D:=by
 refine Y (aR h nofun) ?_;clear h;intro o b h;obtain ⟨p,d,dt,g⟩:=o;refine Y (Ru h nofun) ?_;clear h;intro W e h;refine ae (aeZ (aea h)) ?_;clear h;intro i k;refine ae (aeZ k) ?_;clear k;intro l m;refine ae (Zi i) ?_;clear i;intro c n;have c:p=_:=c;have b:lD K a=some ⟨.type "function",d,.func (fnOf W.name W.qualname W.params D.body D.scope W.defaults W.kwdefaults W.doc W.pyModule W.annotations W.code W.closureTuple),g⟩:=by rw[←c,←n];exact (show dt=.func W from e)▸b
 rw[n]at l m;exact ⟨_,_,_,_,_,_,_,_,_,_,d,g,b,l,λj q f S=>bind_eq (aic.mp (congrFun (congrFun m f) S) j (agF.mpr q)) (Nat.sub_le _ _)⟩
theorem W9{D:aJ}{a:aec}{b:Str}(h:Dh D a b=true) (x:aep×Str) (e:D.code=some x):a=.ref x.1/\(b++".<locals>." :Str)=x.2:=by
 unfold Dh at h;rw[e]at h;refine ae (ad9.mp h) ?_;clear h;intro W c;exact⟨beq_iff_eq.mp W,beq_iff_eq.mp c⟩
theorem Tz{K:afM}{a:Nat}{D:aJ}{F:ahx}{c:List aec}{W:Wd}(p:W.K=K) (d:yO K D.dh c=true) (q:∀ j,j<D.dh.length+1->∀ f S,peek K S (agC F ⟨lE f (D.params.length-j),[]⟩)=some (D.params.zip (lE f (D.params.length-j)++c.drop (c.length-j)))):Fq W F D:=by
 subst p;intro g e b r t h i k;have u:c.length=D.dh.length:=(EA d).2;have l:=h.len i;have m:=Tw k
 cases ER k
 refine aL (toL (vals:=g) l) ?_;clear l;intro f v;have n:=ah.Zg (W7 (T:=W.kt) (α:=r) (N:=t) rfl d) (Rq d) (c.length-(D.params.length-e.length));refine (ay (D.params.zip (g++c.drop (c.length-(D.params.length-e.length)))) ?_ (λs X=>kp_binds X λS=>?_))
 ·rw[←u];exact ah.ac2 (h.app n.1) (by rw[Rr];exact ⟨i,n.2⟩) _
 ·have o:=q (D.params.length-e.length) (ahn (Nat.sub_le_of_le_add (Nat.add_comm _ _▸m.2))) f S;rw[Nat.sub_sub_self m.1]at o;rw[v];exact o
theorem TA{a:aep}{D:aJ}(h:w7 W.K (a,D)=w8 (a,D)) (b:Jo D=true):∃ q c,tK W a D q c:=by
 obtain⟨k,l,params,m,n,o,p,r,s,t,u,v,w,d,y⟩:=GR h;refine ae (ad9.mp d) ?_;clear d;intro z e;refine ae (ad9.mp e) ?_;clear e;intro A B;refine ae (ad9.mp b) ?_;clear b;intro f s6;refine ae (ad9.mp f) ?_;clear f;intro g s5;refine ae (ad9.mp g) ?_;clear g;intro i s4;refine ae (ad9.mp i) ?_;clear i;intro j s3;refine ae (ad9.mp j) ?_;clear j;intro s1 s2;exact⟨l,s,⟨k,params,m,n,o,p,t,_,r,u,v,w6 w,Tz (a:=a) rfl B y⟩,z,W9 A,λx C=>((afK _ _).mp (aeB.mp s1 x C)).imp beq_iff_eq.mp beq_iff_eq.mp,(aeK _).mp s2,(aeK _).mp s3,of_decide_eq_true s4,of_decide_eq_true s5,of_decide_eq_true s6⟩
noncomputable def uj:List Nat:=[52,64,76,88,100]
noncomputable abbrev uk:=Option ((aec×List aec×Bool×Bool×Nat×Option (Option aec))×Option (Option aec)×Option (Option aec)×Option (Option aec)×Option (Option aec)×Bool)
noncomputable def Jq (K:afM) (C:Nat):uk:=aD none (lD K C) λo=>Jp none o.data λW=>some ((o.cls,W.mro,W.hasDict,W.hasDel,o.slots.size,o.slots[4]?),agj K (.ref C) "__init__",agj K (.ref C) "__setattr__",agj K (.ref C) "message",agj K (.ref C) "spot",and (isFn K (.ref 36)) (keepIn K (.ref C)))
noncomputable def Jr (C:Nat):uk:=some ((.type "type",[.ref C,.ref 39,.type "Exception",.type "BaseException",.type "object"],true,false,6,some (some (.builtin i5))),some (some (.ref 36)),some (some (.builtin "object.__setattr__")),some none,some none,true)
theorem rT{α:Type}{l:List α}(h:l.length=n+1):∃ a r,l=a::r/\r.length=n:=by
 induction l using aet with
 |nil=>exact absurd h (ajx n).symm
 |cons a r=>exact⟨a,r,rfl,afR h⟩
theorem six{α:Type}{l:List α}(h:l.length=6):∃ a b c d e f,l=[a,b,c,d,e,f]:=by
 refine be (rT h) ?_;intro a n q W;subst q;refine be (rT W) ?_;intro b o q g;subst q;refine be (rT g) ?_;intro c p q i;subst q;refine be (rT i) ?_;intro d r q j;subst q;refine be (rT j) ?_;intro e s q k;subst q;refine be (rT k) ?_;intro f l6 q m;subst q;rw[age.mp m];exact (RL a b c d e f rfl)
theorem Zj (h:(o.cls,a.mro,a.hasDict,a.hasDel,o.slots.size,o.slots[4]?)=(.type "type",[.ref C,.ref 39,.type "Exception",.type "BaseException",.type "object"],true,false,6,some (some (.builtin i5)))) (e:o.data=.cls a): ∃ k0 k1 k2 k3 k5,o=ag2 a.name a.qualname C a.ns a.bases [.ref 39,.type "Exception",.type "BaseException",.type "object"] true a.slotNames a.subclasses a.abstract a.collection o.dict k0 k1 k2 k3 k5 i5:=by
 obtain⟨j,k,dt,l⟩:=o;obtain⟨m,n,p,N,q,r,sn,sub,s,t,dl⟩:=a;obtain⟨l⟩:=l;refine ae (aeZ h) ?_;clear h;intro b h;refine ae (aeZ h) ?_;clear h;intro c h;refine ae (aeZ h) ?_;clear h;intro d h;refine ae (aeZ h) ?_;clear h;intro f h;refine ae (aeZ h) ?_;clear h;intro W g;refine RJ (six W) ?_;clear W;intro k0 k1 k2 k3 u k5 i;subst i
 cases b;cases c;cases d;cases f;cases e;cases g
 exact⟨k0,k1,k2,k3,k5,rfl⟩
theorem ac3{K:afM}{C:aep}(h:Jq K C=Jr C):mZ K C 36/\keepIn K (.ref C)=true:=by
 refine Y (aR h nofun) ?_;clear h;intro o W h;refine Y (Tx h nofun) ?_;clear h;intro q e h;refine ae (aeZ (aea h)) ?_;clear h;intro a h;refine ae (aeZ h) ?_;clear h;intro b h;refine ae (aeZ h) ?_;clear h;intro c h;refine ae (aeZ h) ?_;clear h;intro d h;refine ae (aeZ h) ?_;clear h;intro f h;refine ae (ad9.mp h) ?_;clear h;intro g i;refine Ue (Zj (C:=C) a e) ?_;clear a e;intro j k l m n p;rw[p]at W;exact⟨⟨⟨_,_,_,_,_,_,_,_,_,_,j,k,l,m,n,w6 W,⟨by kernel_rfl,by kernel_rfl,by kernel_rfl,by kernel_rfl⟩,by kernel_rfl,by kernel_rfl⟩,b,c,d,f,g⟩,i⟩
noncomputable def um:aJ:=dM 2 0 [.int 0] none
noncomputable def lX:List (Nat×Nat):=[(817,813),(148,146),(394,392),(304,302)]
noncomputable def jh:List (Nat×Nat):=[(139,136)]
noncomputable def yd:List Nat:=[52,76,88,100]
noncomputable def MU (K:afM):Bool:=yd.all λC=>exmAny K (.ref C) [.ref 52,.ref 76,.ref 88,.ref 100] ==some true
noncomputable def allB (K:afM):Bool:=and (and (and (and (MU K) (Ce K)) (Jk K)) (and (Jl K) (Jm K))) (and (and (Cf K) (Jn K)) (and (and (ke K) (jh.all λp=>tB K p.1 "turn" p.2)) (and (lX.all λp=>jt K p.1 p.2) (and (nsIn K ae1 "Exception" ==some none) (noTabs K)))))
noncomputable def obs (K:afM):Bool×List ui×List uk:=(allB K,((36,um)::oB).map (w7 K),uj.map (Jq K))
noncomputable def val:Bool×List ui×List uk:=(true,((36,um)::oB).map w8,uj.map Jr)
structure KX where
 K:afM
 ok:obs K=val
noncomputable def jL (prog:ae0)(w:afh)(sl:KX)(a:Nat->Nat->O)(cond:Nat->Bool)(src:List (aep×List aec))(os:afn):Wd:=⟨prog,w,⟨sl.K,a,cond,src,kX⟩,cO,os⟩
set_option backward.match.sparseCases false
end
section
variable{W:Wd}{G:Gm}
set_option backward.match.sparseCases true
structure GX (W:Wd):Prop where
 g:W.G=cO
 xc:∀ C∈uj,mZ W.K C 36/\keepIn W.K (.ref C)=true
 lend:sS W 36
 turn:(jh.all λp=>tB W.K p.1 "turn" p.2)=true
 hd:(lX.all λp=>jt W.K p.1 p.2)=true
 bm:ke W.K=true
 bY:W.kt.bY=kX
noncomputable def dt{a:Type}(b:Bool) (z:a) (f:b=true->a):a:=aen (motive:=λb=>(b=true->a)->a) (λG=>z) (λf=>f rfl) b f
noncomputable def dS{α a:Type}(o:Option α) (z:a) (f:∀ v,o=some v->a):a:=aeT (motive:=λo=>(∀ v,o=some v->a)->a) (λG=>z) (λv f=>f v rfl) o f
theorem nt(h:(!b)=true):b=false:=(aeK _).mp h
section
variable(W G)
noncomputable abbrev RE(e:aeD):={c:Ev // JE W G e c}
noncomputable abbrev RT(e:aeD):={c:Tc // JT W G e c}
noncomputable abbrev RV(e:List aeD):={c:eb // JV W G e c}
noncomputable abbrev RS(s:afu):={c:Sc // JS W G s c}
noncomputable abbrev RB(s:List afu):={c:Sc // JB W G s c}
noncomputable abbrev RG(e:aeD):={c:Tg // JG W G e c}
noncomputable abbrev RN(x:Str):={c:Tg // JN W G x c}
noncomputable abbrev RI(t e:aeD):={c:iV // JI W G t e c}
end
noncomputable def N7:eb:=λG G=>.no
noncomputable def lY:Tg:=λG G G=>.no
theorem ac4:JV W G l N7:=λa a a a a a h b=>bO h b
theorem uo:JG W G e lY:=λa a a a a a a h b=>bO h b
theorem MV:JN W G x lY:=λa a a a a a a h b=>bO h b
noncomputable def eN:RE W G e:=⟨jG,jNo⟩
noncomputable def tN:RT W G e:=⟨NU,ab9⟩
noncomputable def sN:RS W G s:=⟨g0,oY⟩
structure Hn where
 st:Bool
 fits:Bool
 vars:List Str
noncomputable def aW:Hn:=⟨false,false,[]⟩
noncomputable def ac5:Hn:=⟨true,false,[]⟩
noncomputable def ac6:Hn:=⟨false,true,[]⟩
noncomputable def uq(l:List Str):Hn:=⟨false,false,l⟩
variable(W G)in
structure Cm where
 e:Bool->(x:aeD)->RE W G x
 t:(x:aeD)->RT W G x
 g:(x:aeD)->RG W G x
 s:(x:afu)->RS W G x
section
variable(m:Cm W G)
noncomputable def ed (st:Bool) (l:List aeD):RV W G l:=aeC (motive:=λl=>RV W G l) ⟨aI,A2⟩ (λa r b=>dt (!aey a) ⟨N7,ac4⟩ λh=>⟨bg (m.e st a).1 b.1,qu (nt h) (m.e st a).2 b.2⟩) l
noncomputable def cB (l:List afu):RB W G l:=aeC (motive:=λl=>RB W G l) ⟨aF,HG⟩ (λa r b=>⟨eP (m.s a).1 b.1,vY (m.s a).2 b.2⟩) l
noncomputable def gT (x:Str) (l:List (Str×afm)):Nat:=aeC 0 (λp G m=>aen (afb m) 0 (p.1 ==x)) l
noncomputable def pF (G:Gm)(x:Str)(k:afm):Bool:=G.names[gT x G.names]? ==some (x,k)
theorem qw (h:pF G x k=true):G.names[gT x G.names]?=some (x,k):=beq_iff_eq.mp h
variable(gx:GX W)
include gx
theorem uY(h:cO.name x=some v):W.G.name x=some v:=gx.g▸h
theorem jM(h:cO.boot x=true):W.G.boot x=true:=gx.g▸h
omit gx
noncomputable def Di(a:Nat):Bool:=(cO.fn a).isSome ||(cO.init a).isSome
include gx
theorem Dj(h:Di a=true):((W.G.fn a).isSome ||(W.G.init a).isSome)=true:=gx.g▸h
omit gx
noncomputable def ye (x:Str):List Nat:=sz.filterMap λp=>aen none (some p.1) (jv x p.2)
noncomputable def Dk(x:Str):Bool:=(ye x).all λC=>cO.attr C x
include gx
theorem N8(h:Dk x=true):((ye x).all λC=>W.G.attr C x)=true:=gx.g▸h
omit gx
noncomputable def ur (x:Str):List (Nat×Nat):=vQ.filterMap λp=>(bw x p.2).map λf=>(p.1,f)
noncomputable def N9(x:Str):Bool:=(ur x).all λp=>cO.ck p.1 x ==some p.2
include gx
theorem Oa(h:N9 x=true):((ur x).all λp=>W.G.ck p.1 x ==some p.2)=true:=gx.g▸h
noncomputable def A8 (x:Str) (p:Pos):RE W G (.Name x p):=dt (pF G x .local) (dt (A1 G.names (gT x G.names) x) (dt (cf G.names x) eN λm=>dS (cO.name x) eN λv a=>⟨cC v,jGl m (uY gx a)⟩)
 λh=>⟨aA (gT x G.names),acb h⟩) λh=>⟨J (gT x G.names),aca (qw h)⟩
omit gx
noncomputable def cN (x:Str):RN W G x:=dt (pF G x .local) (dt (pF G x .cell) ⟨lY,MV⟩ λh=>⟨fc (gT x G.names),YN (qw h)⟩) λh=>dt (!G.bA) ⟨lY,MV⟩ λm=>⟨aq (gT x G.names),YM (qw h) (nt m)⟩
noncomputable def Dl (x:Str) (p:Pos):RG W G (.Name x p):=dt (pF G x .local) (dt (pF G x .cell) ⟨lY,uo⟩ λh=>⟨fc (gT x G.names),YP (qw h)⟩) λh=>dt (!G.bA) ⟨lY,uo⟩ λm=>⟨aq (gT x G.names),YO (qw h) (nt m)⟩
noncomputable def Dn (l:List aeD):Option {g:iS // jE W G l g}:=aeC (motive:=λl=>Option {g:iS // jE W G l g}) (some ⟨bL,WM⟩) (λa r b=>dS b none λv c=>dt (!aey a) none λh=>some ⟨aV (m.g a).1 v.1,Vo (nt h) (m.g a).2 v.2⟩) l
noncomputable def Ob (l:List Str):{g:iS // rI W G l g}:=aeC (motive:=λl=>{g:iS // rI W G l g}) ⟨bL,WN⟩ (λa r m=>⟨aV (cN a).1 m.1,Vp (cN a).2 m.2⟩) l
structure BP(W:Wd)(G:Gm)where
 v:aec
 p:Prim
 ok:JP W G.d v p
include gx
noncomputable def rU (p:BP W G) (st:Bool) (x:Str) (a:Pos) (l:List aeD) (pos:Pos):RE W G (.Call (.Name x a) l [] pos):=dt (!l.any aey) eN λb=>dt (cf G.names x) eN λc=>dt (cO.boot x) eN λd=>dt (ahV x ==some p.v) eN λe=>dt (noRef p.v) eN λf=>
 ⟨aQ p.p (ed m st l).1,YG p.ok (nt b) c (jM gx d) (beq_iff_eq.mp e) f (ed m st l).2⟩
omit gx
theorem Vz (e:(n ==("isinstance" :Str))=true) (a:(b ==("tuple" :Str))=true) (c:aey x=false) (d:cf G.names ("isinstance" :Str)=true) (f:cf G.names ("tuple" :Str)=true) (g:W.G.boot "isinstance" =true) (h:W.G.boot "tuple" =true) (i:JE W G x j):
 JE W G (.Call (.Name n k) [x,.Name b l] [] pos) (sQ j):=by obtain rfl:=beq_iff_eq.mp e;obtain rfl:=beq_iff_eq.mp a;exact WL c d f g h i
theorem Rv (e:(n ==("dict" :Str))=true) (c:(d ==("zip" :Str))=true) (f:aey a=false) (g:aey b=false) (h:cf G.names ("dict" :Str)=true) (i:cf G.names ("zip" :Str)=true) (j:W.G.boot "dict" =true) (k:W.G.boot "zip" =true)
 (l:JE W G a c1) (o:JE W G b c2):JE W G (.Call (.Name n p) [.Call (.Name d q) [a,b] [] r] [] s) (pX c1 c2):=by obtain rfl:=beq_iff_eq.mp e;obtain rfl:=beq_iff_eq.mp c;exact Tt f g h i j k l o
noncomputable def bps (x:Str):Option (BP W G):=(([("len",⟨_,_,YH⟩),("tuple",⟨_,_,Vk⟩),("int",⟨_,_,WJ⟩),("sorted",⟨_,_,Tj⟩),("all",⟨_,_,YI⟩),("str",⟨_,_,YJ⟩)]:List (Str×BP W G)).find? λq=>x ==q.1).map (·.2)
include gx
noncomputable def Dp (st:Bool) (x:Str) (a:Pos) (l:List aeD) (pos:Pos):RE W G (.Call (.Name x a) l [] pos):=aeT eN (λp=>rU m gx p false x a l pos) (bps (W:=W) (G:=G) x)
noncomputable def ac7 (st:Bool) (x:Str) (a:Pos) (l:List aeD) (pos:Pos):RE W G (.Call (.Name x a) l [] pos):=aen (rU m gx ⟨_,_,Vl⟩ false x a l pos) (rU m gx ⟨_,_,Vm⟩ false x a l pos) st
noncomputable def cB2 (x:Str) (c:Pos) (a b:aeD) (pos:Pos):RE W G (.Call (.Name x c) [a,b] [] pos):=match b with
 |.Name n d=>dt (n ==("tuple" :Str)) (rU m gx ⟨_,_,F3⟩ false x c [a,.Name n d] pos) λe=>dt (x ==("isinstance" :Str)) eN λf=>dt (!aey a) eN λg=>dt (cf G.names "isinstance") eN λh=>dt (cf G.names "tuple") eN λi=>dt (cO.boot "isinstance") eN λj=>dt (cO.boot "tuple") eN λk=> ⟨sQ (m.e false a).1,Vz f e (nt g) h i (jM gx j) (jM gx k) (m.e false a).2⟩
 |b=>rU m gx ⟨_,_,F3⟩ false x c [a,b] pos
noncomputable def cDz (x y:Str) (c d:Pos) (a b:aeD) (e pos:Pos):RE W G (.Call (.Name x c) [.Call (.Name y d) [a,b] [] e] [] pos):=dt (x ==("dict" :Str)) eN λf=>dt (y ==("zip" :Str)) eN λg=>dt (!aey a) eN λh=>dt (!aey b) eN λi=>dt (cf G.names "dict") eN λj=>dt (cf G.names "zip") eN λk=>
 dt (cO.boot "dict") eN λl=>dt (cO.boot "zip") eN λn=>⟨pX (m.e false a).1 (m.e false b).1,Rv f g (nt h) (nt i) j k (jM gx l) (jM gx n) (m.e false a).2 (m.e false b).2⟩
noncomputable def VA(e:aeD):Bool:=match e with
 |.Attribute m n G=>n ==("methods" :Str)
 |_=>false
noncomputable def cBc (st:Bool) (x:Str) (c:Pos) (l:List aeD) (pos:Pos):RE W G (.Call (.Name x c) l [] pos):=match l with
 |[a]=>aen (aen (Dp m gx st x c [a] pos) (match a with
  |.Call (.Name y d) [e,f] [] g=>cDz m gx x y c d e f g pos
  |_=>eN) (x ==("dict" :Str))) (aen (ac7 m gx st x c [a] pos) (rU m gx ⟨_,_,Vq⟩ false x c [a] pos) (VA a)) (x ==("list" :Str))
 |[a,b]=>aen (Dp m gx st x c [a,b] pos) (cB2 m gx x c a b pos) (x ==("isinstance" :Str))
 |l=>Dp m gx st x c l pos
noncomputable def Zk:List Str:=["regions_of","elided","check_regions","type_of","is_told","trait_of","bounds_of","erased","substituted","with_regions","fields_of","field_types","whole_of","told_types","is_like","check_methods","check_rules","names_within","_law_fn","_law_program","_law_sig_right","_law_types_right","_law_rest_right","_law_generics"]
noncomputable def Zl:List Str:=["find","names","told_type","check_params","trait_of_impl","is_field_seen"]
noncomputable def Oc (x:Str) (e:Pos) (a:Nat) (l:List aeD) (pos:Pos) (b:cO.name x=some (.glob a)) (r:RV W G l):RE W G (.Call (.Name x e) l [] pos):=dt (!l.any aey) eN λm=>dt (cf G.names x) eN λc=>dt (Di a) eN λd=>
 aen ⟨az G.call a r.1,WH (nt m) c (uY gx b) (Dj gx d) r.2⟩ ⟨az (bc G.call) a r.1,Vj (nt m) c (uY gx b) (Dj gx d) r.2⟩ (jv x Zk)
noncomputable def dG{b:Type}(v:O)(z:b)(f:∀ a,v=.glob a->b):b:=match v with
 |.glob a=>f a rfl
 |_=>z
noncomputable def cNc (st:Bool) (x:Str) (b:Pos) (l:List aeD) (pos:Pos):RE W G (.Call (.Name x b) l [] pos):=aen (dt (!l.any aey) eN λc=>dt ([136,274].all λa=>(cO.fn a).isSome) eN λd=>⟨og G.call [136,274] (A8 gx x b).1 (ed m false l).1,WZ (nt c) (by rw [gx.g];exact d) (A8 gx x b).2 (ed m false l).2⟩)
 (aeT (motive:=λo=>cO.name x=o->RE W G (.Call (.Name x b) l [] pos)) (λf=>cBc m gx st x b l pos) (λv h=>dG v eN λa e=>Oc gx x b a l pos (e▸h) (ed m false l)) (cO.name x) rfl) (cf G.names x)
omit gx
structure MB (W:Wd) (G:Gm) (name:Str) where
 T:String
 id:String
 ty:Tr->O->Bool
 p:Prim
 h1:rJ W T ty
 h2:PlainAttrs T
 h3:Slot T name id
 h4:typeOf (.builtin id)=pure (.type "method_descriptor")
 h5:JP W G.d (.builtin id) p
noncomputable def mbs (x:Str):Option (MB W G x):=
 dt (x ==("append" :Str)) (dt (x ==("extend" :Str)) (dt (x ==("pop" :Str)) (dt (x ==("get" :Str)) (dt (x ==("startswith" :Str)) (dt (x ==("join" :Str)) (dt (x ==("count" :Str)) none λh=>some ⟨_,_,_,_,tyT,PySem.F.plainAttrs_tuple,beq_iff_eq.mp h▸ajr,by kernel_rfl,Vn⟩) λh=>some ⟨_,_,_,_,NV,ajE,beq_iff_eq.mp h▸ajF,by kernel_rfl,WK⟩) λh=>some ⟨_,_,_,_,NV,ajE,beq_iff_eq.mp h▸ai3,by kernel_rfl,Tq⟩) λh=>some ⟨_,_,_,_,tyD,PySem.F.plainAttrs_dict,beq_iff_eq.mp h▸aip,by kernel_rfl,YL⟩) λh=>some ⟨_,_,_,_,C1,aia,beq_iff_eq.mp h▸PySem.F.slot_list_pop,by kernel_rfl,YK⟩) λh=>some ⟨_,_,_,_,C1,aia,beq_iff_eq.mp h▸ajp,by kernel_rfl,Tp⟩) λh=>some ⟨_,_,_,_,C1,aia,beq_iff_eq.mp h▸PySem.F.slot_list_append,by kernel_rfl,Tn⟩
noncomputable def Od (o:aeD) (x:Str) (a:Pos) (l:List aeD) (pos:Pos):Bool:=and (eH o) (and (!l.any aey) (and (sd l) (a.endLine ==pos.line)))
theorem iC (h:Od o x a l pos=true):eH o=true/\l.any aey=false/\sd l=true/\(a.endLine ==pos.line)=true:=by
 refine ae (ad9.mp h) ?_;clear h;intro m h;refine ae (ad9.mp h) ?_;clear h;intro G h;refine ae (ad9.mp h) ?_;clear h;intro W b;exact (j5 m (nt G) W b)
include gx
noncomputable def cMc (o:aeD) (x:Str) (a:Pos) (l:List aeD) (pos:Pos):RE W G (.Call (.Attribute o x a) l [] pos):=dt (Od o x a l pos) eN λh=>aen (dt (N9 x) eN λb=>aen ⟨a9 G.call (ur x) x (m.e false o).1 (ed m false l).1,YD rfl (iC h).1 (iC h).2.1 (iC h).2.2.1 (iC h).2.2.2 (Oa gx b) (m.e false o).2 (ed m false l).2⟩ ⟨a9 (bc G.call) (ur x) x (m.e false o).1 (ed m false l).1,WI rfl (iC h).1 (iC h).2.1 (iC h).2.2.1 (iC h).2.2.2 (Oa gx b) (m.e false o).2 (ed m false l).2⟩ (jv x Zl))
 (aeT eN (λq=>⟨bT q.ty q.p (m.e false o).1 (ed m false l).1,jMB q.h1 q.h2 q.h3 q.h4 q.h5 (iC h).1 (iC h).2.1 (iC h).2.2.1 (iC h).2.2.2 (m.e false o).2 (ed m false l).2⟩) (mbs (W:=W) (G:=G) x)) (ur x).isEmpty
noncomputable def cAt (o:aeD) (x:Str) (pos:Pos):RE W G (.Attribute o x pos):=dt (eH o) eN λh=>dt (x ==("turn" :Str)) (dt (Dk x) eN λa=>⟨aw (ye x) x (m.e false o).1,YC rfl h (N8 gx a) (m.e false o).2⟩) λa=>⟨vW jh x (m.e false o).1,W1 rfl h (by rw[beq_iff_eq.mp a];exact gx.turn) (m.e false o).2⟩
omit gx
noncomputable def cDs (a:List (Option aeD)):(vs:List aeD)->Option {p:List Str×eb // JD W G a vs p.1 p.2}:=aeC (motive:=λa=>(vs:List aeD)->Option {p:List Str×eb // JD W G a vs p.1 p.2}) (λvs=>match vs with
 |[]=>some ⟨([],aI),Y2⟩
 |_=>none) (λk b c vs=>match k,vs with
 |some (.Constant (.str x) d e),v::vs=>dS (c vs) none λq b=>dt (afg x) none λh=>some ⟨(x::q.1.1,bg (m.e false v).1 q.1.2),WX rfl h (m.e false v).2 q.2⟩
 |_,_=>none) a
noncomputable def cDi (a:List (Option aeD)) (vs:List aeD) (pos:Pos):RE W G (.Dict a vs pos):=match a,vs with
 |[],[]=>⟨er,WY⟩
 |a,vs=>dt (!G.bA) eN λh=>dS (cDs m a vs) eN λq c=>dt (A3 a vs q.1.1) eN λb=>⟨hV q.1.1 q.1.2,Y3 (nt h) b q.2⟩
theorem Xa (q:(n ==("range" :Str))=true) (a:aey e=false) (b:cf G.names ("range" :Str)=true) (c:W.G.boot "range" =true) (d:JE W G e f):JI W G t (.Call (.Name n g) [e] [] pos) (iO f):=by obtain rfl:=beq_iff_eq.mp q;exact YZ a b c d
theorem Xb (q:(n ==("reversed" :Str))=true) (a:aey e=false) (b:cf G.names ("reversed" :Str)=true) (c:W.G.boot "reversed" =true) (d:JE W G e f):JI W G t (.Call (.Name n g) [e] [] pos) (ri f):=by obtain rfl:=beq_iff_eq.mp q;exact Y0 a b c d
include gx
noncomputable def cI (t it:aeD):RI W G t it:=match it with
 |.Call (.Name x d) [e] [] f=>dt (!aey e) ⟨_,ox eN.2⟩ λh=>dt (x ==("range" :Str)) (dt (x ==("reversed" :Str)) ⟨_,ox (m.e false (.Call (.Name x d) [e] [] f)).2⟩ λa=>dt (cf G.names "reversed") ⟨_,ox eN.2⟩ λb=>dt (cO.boot "reversed") ⟨_,ox eN.2⟩ λc=>⟨ri (m.e false e).1,Xb a (nt h) b (jM gx c) (m.e false e).2⟩) λa=>dt (cf G.names "range") ⟨_,ox eN.2⟩ λb=>dt (cO.boot "range") ⟨_,ox eN.2⟩ λc=>⟨iO (m.e false e).1,Xa a (nt h) b (jM gx c) (m.e false e).2⟩
 |it=>⟨cu (m.e false it).1,ox (m.e false it).2⟩
omit gx
end
noncomputable def ac8 (e:aeD):Bool:=match e with
 |.Call (.Name x G) W a b=>(x ==("enumerate" :Str)) ||(x ==("zip" :Str))
 |_=>false
noncomputable def yf (a:List (Str×afm)) (e:aeD):CT:=match e with
 |.Tuple [.Name x G,.Name y W] b c=>.two (gT x a) (gT y a)
 |.Name x G=>.one (gT x a)
 |_=>.one 0
noncomputable def m6 (sc a:List (Str×afm)):List (Nat×Nat):=(afT sc.length).filterMap λi=>aD none sc[i]? λq=>aen none (some (i,gT q.1 a)) (q.2 ==.free)
structure CpR (W:Wd) (G:Gm) (elt t it:aeD) (ifs:List aeD) (sc:aft) where
 i:RI W G t it
 ts:{c:Tc // pv W (G.g5 sc) ifs c}
 c:RE W (G.g5 sc) elt
 h1:G.bA=false
 h2:hJ it=true
 h3:rL sc=true
 h4:rK sc t (yf sc.names t)=true
 h5:uT ifs.isEmpty ifs=true
 h6:jH sc.names G.names (m6 sc.names G.names)=true
noncomputable def cTs (m:Cm W G)(a:List aeD):Option {c:Tc // pv W G a c}:=match a with
 |[]=>some ⟨bo,WU⟩
 |[e]=>some ⟨(m.t e).1,WV (m.t e).2⟩
 |_=>none
noncomputable def Oe (gx:GX W) (m:Cm W G) (c:∀ G,Cm W G) (d t a:aeD) (b:List aeD) (sc:aft):Option (CpR W G d t a b sc):=dt (!ac8 a) none λe=>dS (cTs (c (G.g5 sc)) b) none λf e=>dt (!G.bA) none λg=>dt (hJ a) none λh=>dt (rL sc) none λi=>dt (rK sc t (yf sc.names t)) none λj=>dt (uT b.isEmpty b) none λk=>
 dt (jH sc.names G.names (m6 sc.names G.names)) none λl=>some ⟨cI m gx t a,f,(c (G.g5 sc)).e false d,nt g,h,i,j,k,l⟩
section
variable(gx:GX W)(hn:Hn)(m:Cm W G)(ih:∀ G,Cm W G)
include gx
noncomputable def cLc (st:Bool) (a:aeD) (b:List Comprehension) (sc:aft) (pos:Pos):RE W G (.ListComp a b sc pos):=match b with
 |[⟨t,d,c,0⟩]=>aeT eN (λq=>⟨bP st (yf sc.names t) c.isEmpty (m6 sc.names G.names) q.i.1 q.ts.1 q.c.1,Y1 q.h1 q.h2 q.h3 q.h4 q.h5 q.h6 q.i.2 q.ts.2 q.c.2⟩) (Oe gx m ih a t d c sc)
 |_=>eN
omit gx
noncomputable def cBo (st:Bool) (op:BoolOp) (l:List aeD) (pos:Pos):RE W G (.BoolOp op l pos):=match op,l with
 |op,[x]=>⟨(m.e st x).1,jB1 (m.e st x).2⟩
 |.And,x::z::r=>⟨oM (m.e false x).1 (m.e false (.BoolOp .And (z::r) pos)).1,acj (m.e false x).2 (m.e false (.BoolOp .And (z::r) pos)).2⟩
 |.Or,x::z::r=>⟨lL (m.e false x).1 (m.e false (.BoolOp .Or (z::r) pos)).1,jOr (m.e false x).2 (m.e false (.BoolOp .Or (z::r) pos)).2⟩
 |a,[]=>eN
noncomputable def cSb (o i:aeD) (pos:Pos):RE W G (.Subscript o i pos):=match i with
 |.Slice none (some u) none p=>⟨qD (m.e false o).1 (m.e false u).1,YE (m.e false o).2 (m.e false u).2⟩
 |.Slice (some u) none none p=>⟨qE (m.e false o).1 (m.e false u).1,YF (m.e false o).2 (m.e false u).2⟩
 |i=>dt (qp i) eN λh=>⟨af (m.e false o).1 (m.e false i).1,ack h (m.e false o).2 (m.e false i).2⟩
noncomputable def cBi (st:Bool)(a:aeD)(op:Operator)(b:aeD)(pos:Pos):RE W G (.BinOp a op b pos):=match op with
 |.Add=>⟨bb st (m.e false a).1 (m.e false b).1,acm (m.e false a).2 (m.e false b).2⟩
 |.Mult=>⟨ua (m.e false a).1 (m.e false b).1,acn (m.e false a).2 (m.e false b).2⟩
 |.Sub=>⟨wW (m.e false a).1 (m.e false b).1,Zd (m.e false a).2 (m.e false b).2⟩
 |_=>eN
noncomputable def cLi (st:Bool)(a:List aeD)(pos:Pos):RE W G (.List a pos):=aen ⟨aY (ed m false a).1,jHl (ed m false a).2⟩ ⟨eg (ed m false a).1,HF (ed m false a).2⟩ (st&&(a.isEmpty ||hn.st))
include gx
noncomputable def cE (st:Bool) (e:aeD):RE W G e:=match e with
 |.Constant g y c=>dS (An g) eN λa h=>⟨cC a,jC h⟩
 |.Name x c=>A8 gx x c
 |.IfExp t a b c=>⟨bC (m.t t).1 (m.e st a).1 (m.e st b).1,acd (m.t t).2 (m.e st a).2 (m.e st b).2⟩
 |.Compare a j n c=>(match j,n with
  |[op],[b]=>dt (!afy op b) eN λh=>⟨c0 op (m.e false a).1 (m.e false b).1,ace (nt h) (m.e false a).2 (m.e false b).2⟩
  |_,_=>eN)
 |.UnaryOp op x c=>(match op with
  |.Not=>⟨Bp (m.e false x).1,ach (m.e false x).2⟩
  |.USub=>⟨iM (m.e false x).1,aci (m.e false x).2⟩
  |_=>eN)
 |.BoolOp op l c=>cBo m st op l c
 |.Tuple d k c=>⟨ai (ed m st d).1,Mb (ed m st d).2⟩
 |.List d c=>cLi hn m st d c
 |.Attribute o x c=>cAt m gx o x c
 |.Subscript o i c=>cSb m o i c
 |.BinOp a op b c=>cBi m st a op b c
 |.Dict p q c=>cDi m p q c
 |.ListComp r s sc c=>cLc gx m ih st r s sc c
 |.Call f l u c=>(match u with
  |[]=>(match f with
   |.Name x v=>cNc m gx st x v l c
   |.Attribute o x w=>cMc m gx o x w l c
   |_=>eN)
  |_=>eN)
 |_=>eN
omit gx
theorem Rw (q:(n ==("values" :Str))=true) (b:eH o=true) (c:(d.endLine ==e.line)=true) (f:JE W G a g) (h:JE W G o i):JT W G (.Compare a [.In] [.Call (.Attribute o n d) [] [] e] pos) (sy g i):=by obtain rfl:=beq_iff_eq.mp q;exact Ts b c f h
noncomputable def inK (hn:Hn) (b:aeD):Nat:=match b with
 |.Attribute m n G=>aen (aen 0 2 hn.fits) 1 (n ==("done" :Str))
 |.Call (.Attribute m n G) [] [] W=>aen 0 3 (n ==("values" :Str))
 |_=>aen 0 2 hn.fits
noncomputable def cIn (a b:aeD) (pos:Pos):RT W G (.Compare a [.In] [b] pos):=dt (!afy .In b) tN λh=>match inK hn b with
 |0=>⟨au .In (m.e false a).1 (m.e false b).1,HE (nt h) (m.e false a).2 (m.e false b).2⟩
 |1=>⟨xK (m.e false a).1 (m.e false b).1,Y5 (nt h) (m.e false a).2 (m.e false b).2⟩
 |2=>⟨xF (m.e false a).1 (m.e false b).1,YV (nt h) (m.e false a).2 (m.e false b).2⟩
 |_=>(match b with
  |.Call (.Attribute o n c) [] [] d=>dt (n ==("values" :Str)) tN λe=>dt (eH o) tN λf=>dt (c.endLine ==d.line) tN λg=>⟨sy (m.e false a).1 (m.e false o).1,Rw e f g (m.e false a).2 (m.e false o).2⟩
  |_=>tN)
noncomputable def cT (e:aeD):RT W G e:=match e with
 |.UnaryOp op x c=>(match op with
  |.Not=>⟨eZ (m.t x).1,Yy (m.t x).2⟩
  |_=>tN)
 |.BoolOp op l c=>(match op,l with
  |.And,[]=>⟨bo,WG⟩
  |.Or,[]=>⟨dP,Vi⟩
  |.And,x::r=>⟨c6 (m.t x).1 (m.t (.BoolOp .And r c)).1,Yz (m.t x).2 (m.t (.BoolOp .And r c)).2⟩
  |.Or,x::r=>⟨bI (m.t x).1 (m.t (.BoolOp .Or r c)).1,acg (m.t x).2 (m.t (.BoolOp .Or r c)).2⟩)
 |.Compare a d f c=>(match d,f with
  |[op],[b]=>(match op with
   |.In=>cIn hn m a b c
   |op=>dt (!afy op b) tN λh=>⟨au op (m.e false a).1 (m.e false b).1,HE (nt h) (m.e false a).2 (m.e false b).2⟩)
  |_,_=>tN)
 |e=>dt (zT e) tN λh=>⟨cF (m.e false e).1,acf h (m.e false e).2⟩
noncomputable def cG (e:aeD):RG W G e:=match e with
 |.Name x a=>Dl x a
 |.Tuple b k a=>aeT ⟨lY,uo⟩ (λg=>⟨cz b.length g.1,YQ (afz _) g.2⟩) (Dn m b)
 |_=>⟨lY,uo⟩
noncomputable def Of (x:Sem (Option (List Str))):Option (Option (List Str)):=match x with
 |.pure o=>some o
 |_=>none
theorem Xc (h:Of x=some o):x=pure o:=by induction x using Sem.casesOn with
 |pure m=>rw[aea (h:some m=some o)];rfl
 |_=>exact aT h
noncomputable def Og(x:Sem Bool):Bool:=match x with
 |.pure b=>b
 |_=>false
theorem Xd(h:Og x=true):x=pure true:=by induction x using Sem.casesOn with
 |pure b=>rw[show b=true from h];rfl
 |_=>exact aX h
noncomputable def yg(e:aeD):Bool:=match e with
 |.Tuple ..=>true
 |_=>false
noncomputable def ac9 (a:List aeD) (k:Nat) (b:Pos) (e:aeD) (p:Pos):RS W G (.Assign [.Tuple a k b] e p):=dt (!eJ e) sN λc=>dt (!G.bA) sN λd=>dS (Of (agV [.Tuple a k b] e (m4 G.names))) sN λo f=>aeT (motive:=λo=>agV [.Tuple a k b] e (m4 G.names)=pure o->RS W G (.Assign [.Tuple a k b] e p))
 (λh=>⟨aC (m.g (.Tuple a k b)).1 (m.e (yg e) e).1,YR (nt c) (nt d) h (m.g (.Tuple a k b)).2 (m.e (yg e) e).2⟩)
 (λl h=>dt (l ==nS a) sN λg=>⟨aC (ff (nS a).length (Ob (nS a).reverse).1) (m.e (yg e) e).1,YS (nt c) (nt d) (by rw [h,beq_iff_eq.mp g]) (afz _) (Ob (nS a).reverse).2 (m.e (yg e) e).2⟩) o (Xc f)
noncomputable def yP(hn:Hn)(x:Str)(e:aeD):Bool:=match e with
 |.List [] m=>true
 |.List ..=>jv x hn.vars
 |.ListComp ..=>jv x hn.vars
 |.BinOp ..=>jv x hn.vars
 |_=>hn.st
include gx
noncomputable def ada (st:Bool) (x:Str) (a:Pos) (b:aeD) (d:List Comprehension) (sc:aft) (pos p:Pos):RS W G (.Assign [.Name x a] (.ListComp b d sc pos) p):=match d with
 |[⟨t,e,c,0⟩]=>aeT sN (λq=>dt (Og (ain (.ListComp b [⟨t,e,c,0⟩] sc pos) (some (.Name x a)) p.line (m4 G.names))) sN λh=>⟨k9 st (yf sc.names t) c.isEmpty (m6 sc.names G.names) q.i.1 q.ts.1 q.c.1 (Dl x a).1,WW q.h1 (Xd h) q.h2 q.h3 q.h4 q.h5 q.h6 q.i.2 q.ts.2 q.c.2 (Dl x a).2⟩) (Oe gx m ih b t e c sc)
 |_=>sN
noncomputable def adb (x:Str) (c:Pos) (e:aeD) (p:Pos):RS W G (.Assign [.Name x c] e p):=match e with
 |.ListComp d f sc a=>ada gx m ih (yP hn x (.ListComp d f sc a)) x c d f sc a p
 |.List b a=>aen ⟨aC (cN x).1 (m.e false (.List b a)).1,xI rfl (cN x).2 (m.e false (.List b a)).2⟩ ⟨aC (cN x).1 (eg (ed m false b).1),xI rfl (cN x).2 (HF (ed m false b).2)⟩ (yP hn x (.List b a))
 |e=>dt (!eJ e) sN λh=>⟨aC (cN x).1 (m.e (yP hn x e) e).1,xI (nt h) (cN x).2 (m.e (yP hn x e) e).2⟩
noncomputable def cAs (t e:aeD) (p:Pos):RS W G (.Assign [t] e p):=match t with
 |.Name x a=>adb gx hn m ih x a e p
 |.Tuple b k a=>ac9 m b k a e p
 |.Attribute o x a=>dt (!eJ e) sN λh=>dt (Dk x) sN λc=>⟨bk (ye x) x (m.e false o).1 (m.e true e).1,WO rfl (nt h) (N8 gx c) (m.e false o).2 (m.e true e).2⟩
 |.Subscript o i a=>aen ⟨bX (m.e false e).1 (m.e false o).1 (m.e false i).1,aco (m.e false e).2 (m.e false o).2 (m.e false i).2⟩ ⟨wN (m.e false e).1 (m.e false o).1 (m.e false i).1,YU (m.e false e).2 (m.e false o).2 (m.e false i).2⟩ hn.fits
 |_=>sN
omit gx
theorem Xe (q:(n ==("range" :Str))=true) (hn:G.bA=false) (a:aey e=false) (b:cf G.names ("range" :Str)=true) (c:W.G.boot "range" =true) (d:JE W G e f) (g:JG W G target h) (i:JB W G body j):
 JS W G (.For target (.Call (.Name n k) [e] [] l) body [] pos) (qH h f j):=by obtain rfl:=beq_iff_eq.mp q;exact YW hn a b c d g i
theorem VB{e elts kk d body m f g pos a b c}(q:(m ==("enumerate" :Str))=true) (hn:G.bA=false) (h:aey e=false) (i:cf G.names ("enumerate" :Str)=true) (j:W.G.boot "enumerate" =true) (k:JE W G e b) (l:jE W G elts a) (n:JB W G body c):
 JS W G (.For (.Tuple elts kk d) (.Call (.Name m f) [e] [] g) body [] pos) (n8 (cz elts.length a) b c):=by obtain rfl:=beq_iff_eq.mp q;exact WQ hn h i j (afz _) k l n
theorem Xf{a b elts kk e body m f g pos c c1 c2 d}(q:(m ==("zip" :Str))=true) (hn:G.bA=false) (h:aey a=false) (i:aey b=false) (j:cf G.names ("zip" :Str)=true) (k:W.G.boot "zip" =true) (l:JE W G a c1) (n:JE W G b c2) (o:jE W G elts c) (p:JB W G body d):
 JS W G (.For (.Tuple elts kk e) (.Call (.Name m f) [a,b] [] g) body [] pos) (qL (cz elts.length c) c1 c2 d):=by obtain rfl:=beq_iff_eq.mp q;exact YX hn h i j k (afz _) l n o p
noncomputable def ade (a:aeD) (b:List afu):Nat:=match a with
 |.Call (.Name x m) [G] [] W=>aen (aen 0 2 (x ==("enumerate" :Str))) 1 (x ==("range" :Str))
 |.Call (.Name x m) [G,W] [] c=>aen 0 3 (x ==("zip" :Str))
 |.BinOp ..=>(match b with
  |[.Expr m G]=>4
  |_=>0)
 |_=>0
include gx
noncomputable def Oh (t a:aeD) (b:List afu) (pos:Pos) (d:RB W G b):RS W G (.For t a b [] pos):=dt (!G.bA) sN λh=>match ade a b with
 |0=>dt (hJ a) sN λc=>⟨dq (m.g t).1 (m.e false a).1 d.1,acp (nt h) c (m.e false a).2 (m.g t).2 d.2⟩
 |1=>(match a with
  |.Call (.Name x p) [e] [] q=>dt (x ==("range" :Str)) sN λj=>dt (!aey e) sN λc=>dt (cf G.names "range") sN λf=>dt (cO.boot "range") sN λi=>⟨qH (m.g t).1 (m.e false e).1 d.1,Xe j (nt h) (nt c) f (jM gx i) (m.e false e).2 (m.g t).2 d.2⟩
  |_=>sN)
 |2=>(match t,a with
  |.Tuple l k r,.Call (.Name x p) [e] [] q=>dS (Dn m l) sN λg s=>dt (x ==("enumerate" :Str)) sN λj=>dt (!aey e) sN λc=>dt (cf G.names "enumerate") sN λf=>dt (cO.boot "enumerate") sN λi=>⟨n8 (cz l.length g.1) (m.e false e).1 d.1,VB j (nt h) (nt c) f (jM gx i) (m.e false e).2 g.2 d.2⟩
  |_,_=>sN)
 |3=>(match t,a with
  |.Tuple l k r,.Call (.Name x p) [n,o] [] q=>dS (Dn m l) sN λg s=>dt (x ==("zip" :Str)) sN λj=>dt (!aey n) sN λc=>dt (!aey o) sN λu=>dt (cf G.names "zip") sN λf=>dt (cO.boot "zip") sN λi=>⟨qL (cz l.length g.1) (m.e false n).1 (m.e false o).1 d.1,Xf j (nt h) (nt c) (nt u) f (jM gx i) (m.e false n).2 (m.e false o).2 g.2 d.2⟩
  |_,_=>sN)
 |_=>(match t,b with
  |.Name x v,[.Expr e w]=>dt (hJ a) sN λc=>dt (pF G x .local) sN λf=>dt (!eJ e) sN λi=>⟨wJ (gT x G.names) (m.e false a).1 (m.e false e).1,YY (nt h) c (qw f) (nt i) (m.e false a).2 (m.e false e).2⟩
  |_,_=>sN)
noncomputable def cRa (x:Str) (b:Pos) (l:List aeD) (c pos:Pos):RS W G (.Raise (some (.Call (.Name x b) l [] c)) none pos):=dS (cO.name x) sN λv d=>dG v sN λC e=>dt (uj.contains C) sN λa=>dt (!l.any aey) sN λf=>dt (cf G.names x) sN λg=>
 ⟨cw C (ed m false l).1,W2 (gx.xc C (aiq.mp a)).1 gx.lend (gx.xc C (aiq.mp a)).2 (nt f) g (uY gx (e▸d)) (ed m false l).2⟩
noncomputable def cS (s:afu):RS W G s:=match s with
 |.Return o d=>(match o with
  |some e=>⟨aG (m.e false e).1,Mc (m.e false e).2⟩
  |none=>⟨wh,YA⟩)
 |.Pass d=>⟨aF,YB⟩
 |.Expr e d=>dt (!eJ e) sN λh=>⟨bq (m.e false e).1,YT (nt h) (m.e false e).2⟩
 |.If t a b d=>⟨aB (m.t t).1 (cB m a).1 (cB m b).1,jIf (m.t t).2 (cB m a).2 (cB m b).2⟩
 |.While t b o d=>(match o with
  |[]=>dt (!G.bA) sN λh=>⟨n7 (m.t t).1 (cB m b).1,WR (nt h) (m.t t).2 (cB m b).2⟩
  |_=>sN)
 |.For t f b o d=>(match o with
  |[]=>Oh gx m t f b d (cB m b)
  |_=>sN)
 |.Assign g e d=>(match g with
  |[t]=>cAs gx hn m ih t e d
  |_=>sN)
 |.Raise e c d=>(match e,c with
  |some (.Call (.Name x i) l [] j),none=>cRa gx m x i l j d
  |_,_=>sN)
 |_=>sN
end
noncomputable def cm (gx:GX W) (c:Hn) (n:Nat):∀ G,Cm W G:=afX (motive:=λa=>∀ G,Cm W G) (λa=>⟨λa a=>eN,λa=>tN,λa=>⟨lY,uo⟩,λa=>sN⟩) (λa b G=>⟨λst e=>cE gx c (b G) b st e,λe=>cT c (b G) e,λe=>cG (b G) e,λs=>cS gx c (b G) b s⟩) n
noncomputable def fuel:Nat:=nat_lit 40
section
variable(gx:GX W)(m:Cm W G)
noncomputable def Oi (l:List afu):(i:Nat)->(∀ s,l[i]?=some s->RS W G s)->RB W G l:=aeC (motive:=λl=>(i:Nat)->(∀ s,l[i]?=some s->RS W G s)->RB W G l) (λc c=>⟨aF,HG⟩)
 (λs r b i a=>aij (motive:=λi=>(∀ t,(s::r)[i]?=some t->RS W G t)->RB W G (s::r)) i (λa=>⟨eP (a s rfl).1 (cB m r).1,vY (a s rfl).2 (cB m r).2⟩) (λi a=>⟨eP (m.s s).1 (b i a).1,vY (m.s s).2 (b i a).2⟩) a) l
include gx
theorem Oj (h:lX.contains (c,P)=true):jt W.K c P=true:=aeB.mp gx.hd (c,P) (aiq.mp h)
omit gx
theorem bindL{sc:aft}(h:(a.arg ==("region" :Str))=true) (name c d e f g v):agC (kla_fn name c ⟨[],[a],none,[],[],none,[]⟩ b sc d e f g) ⟨[v],[]⟩=pure [(a.arg,v)]:=by
 obtain ⟨x,m,p⟩:=a;obtain rfl:x=("region" :Str):=beq_iff_eq.mp h;kernel_rfl
theorem Zm{sc:aft}(h:(x ==("region" :Str))=true) (name a c d e f g v):agC (fnX name a ⟨[],[⟨x,none,i⟩],none,[],[],none,[]⟩ b sc c .none .none d e none f g) ⟨[v],[]⟩=pure [(x,v)]:=by
 obtain rfl:x=("region" :Str):=beq_iff_eq.mp h;kernel_rfl
include gx
noncomputable def Cg (e P id:Nat) (d:Arguments) (b:aeD) (sc:aft) (pos:Pos) (h:kX id=some ⟨"region",.expr b,sc⟩):RE W G (.Lambda d b sc pos):=match d with
 |⟨[],[a],none,[],[],none,[]⟩=>dS G.code eN λc f=>dt (!G.bA) eN λg=>dt (jH sc.names G.names (m6 sc.names G.names)) eN λi=>dt (ub sc) eN λj=>dt (lX.contains (c.1,P)) eN λk=>dt (a.arg ==("region" :Str)) eN λm=> ⟨mH e P (c.2++"<lambda>") id (m6 sc.names G.names),acq (x:=a.arg) (nt g) i j f (Oj gx k) rfl gx.bm (by rw[gx.bY,beq_iff_eq.mp m];exact h) ⟨rfl,rfl⟩ (bindL m)⟩
 |_=>eN
noncomputable def Dr (f:Str) (b:Pos) (a e:aeD) (pos:Pos) (c:RE W G e):RE W G (.Call (.Name f b) [a,e] [] pos):=dt (!aey a) eN λh=>dt (!aey e) eN λd=>dS (cO.name f) eN λv i=>dG v eN λg q=>Oc gx f b g [a,e] pos (q▸i) ⟨bg (m.e false a).1 (bg c.1 aI),qu (nt h) (m.e false a).2 (qu (nt d) c.2 A2)⟩
noncomputable def Ol (i P id:Nat) (s:afu) (h:∀ x g f e a c b sc d pos p,s=.Assign [.Name x g] (.Call (.Name f e) [a,.Lambda c b sc d] [] pos) p->kX id=some ⟨"region",.expr b,sc⟩):RS W G s:=match s with
 |.Assign [.Name x g] (.Call (.Name f e) [a,.Lambda c b sc d] [] pos) p=>⟨aC (cN x).1 (Dr gx m f e a (.Lambda c b sc d) pos (Cg gx i P id c b sc d (h x g f e a c b sc d pos p rfl))).1,xI rfl (cN x).2 (Dr gx m f e a (.Lambda c b sc d) pos (Cg gx i P id c b sc d (h x g f e a c b sc d pos p rfl))).2⟩
 |_=>sN
omit gx
theorem Zn{f id P b c x name nm sc body pos q d e}{a:Arguments}(g:(nm ==name)=true) (h:G.bA=false) (i:jH sc.names G.names b=true) (j:ub sc=true) (k:G.code=some (d,q)) (l:jt W.K d P=true) (n:wR G.names name=true) (o:(q++name:Str)=c) (p:ke W.K=true) (r:W.kt.bY id=some ⟨x,.stmts body,sc⟩) (s:a.defaults=[]/\a.kw_defaults=[]) (t:∀ env,annTrees a none env=[]) (u:∀ name w y z A B C v,agC (fnX name w a body sc y .none .none z A none B C) ⟨[v],[]⟩=pure [(x,v)]) (D:JN W G name e):JS W G (.FunctionDef name a body [] none [] sc none nm pos) (tY f P c id b e):=by
 obtain rfl:=beq_iff_eq.mp g;exact acr h i j k l n o p r s t u D
include gx
noncomputable def cDf (b P id:Nat) (s:afu) (h:∀ name d body sc nm pos,s=.FunctionDef name d body [] none [] sc none nm pos->kX id=some ⟨"region",.stmts body,sc⟩):RS W G s:=match s with
 |.FunctionDef name ⟨[],[⟨m,none,n⟩],none,[],[],none,[]⟩ body [] none [] sc none nm pos=>dS G.code sN λc e=>dt (nm ==name) sN λf=>dt (!G.bA) sN λg=>dt (jH sc.names G.names (m6 sc.names G.names)) sN λi=>dt (ub sc) sN λj=>dt (lX.contains (c.1,P)) sN λk=>dt (m ==("region" :Str)) sN λa=>dt (wR G.names name) sN λl=> ⟨tY b P (c.2++name) id (m6 sc.names G.names) (cN name).1,Zn (x:=m) f (nt g) i j e (Oj gx k) l rfl gx.bm (by rw [gx.bY,beq_iff_eq.mp a];exact h _ _ _ _ _ _ rfl) ⟨rfl,rfl⟩ (λo=>rfl) (Zm a) (cN name).2⟩
 |_=>sN
noncomputable def adf (s:afu) (h:qR.body[4]?=some s):RS W G s:=match s,h with
 |.Return (some (.Tuple [c,.Call (.Name f i) [a,.Lambda e b sc g] [] j,d] k o)) p,h=>dt (!aey c) sN λl=>dt (!aey d) sN λn=>
  let r:=Dr gx m f i a (.Lambda e b sc g) j (Cg gx 1 146 0 e b sc g (by show o9 (x9 qR.body)=_;unfold x9;rw [h];rfl))
  ⟨aG (ai (bg (m.e false c).1 (bg r.1 (bg (m.e false d).1 aI)))),Mc (Mb (qu (nt l) (m.e false c).2 (qu rfl r.2 (qu (nt n) (m.e false d).2 A2))))⟩
 |_,_=>sN
noncomputable def adg (s:afu)(h:qU.body[1]?=some s):RS W G s:=Ol gx m 0 813 1 s λx c f d a g b sc i j p e=>by show o9 (ya qU.body)=_;unfold ya;rw[h,e];rfl
noncomputable def adh (s:afu) (h:qT.body[6]?=some s):RS W G s:=match s,h with
 |.For t c (s0::r) [] p,h=>Oh gx m t c (s0::r) p (let a:=Ol gx m 2 392 2 s0 λx d f g a i b sc j k p e=>(by show o9 (yb qT.body)=_;unfold yb;rw [h,e];rfl);⟨eP a.1 (cB m r).1,vY a.2 (cB m r).2⟩)
 |_,_=>sN
noncomputable def adi (s:afu)(h:qS.body[5]?=some s):RS W G s:=cDf gx 3 302 3 s λm a body sc b c e=>by show Cc (yc qS.body)=_;unfold yc;rw[h,e];rfl
end
noncomputable def FK(fd:aJ)(E:aM):Prop:=∀ W:Wd,GX W->k7 W fd E
noncomputable def wS (x:Str):Ev:=cC (.str x)
noncomputable def wI (i:Int):Ev:=cC (.int i)
noncomputable def bp (b:Bool):Ev:=cC (.bool b)
noncomputable def wZ:Ev:=cC .none
noncomputable def U (l:List Ev):eb:=aeC aI (λa W G=>bg a G) l
noncomputable def ag (l:List Sc):Sc:=aeC aF (λa W G=>eP a G) l
theorem fK (a:Hn) (b:E.gV=fd.dh:=by rfl) (c:xJ fd E=true:=by kernel_rfl) (e:∀ (W:Wd) (gx:GX W) call d,(cB (cm gx a fuel ⟨fd.scope.names,call,d,fd.code,false⟩) fd.body).1=E.body call:=by intros;kernel_rfl):FK fd E:=λW gx=>wU b c λcall d=>e W gx call d▸(cB (cm gx a fuel ⟨fd.scope.names,call,d,fd.code,false⟩) fd.body).2
theorem yQ (a:Hn) (i:Nat) (b:∀ {W:Wd}{G:Gm},GX W->Cm W G->∀ s,fd.body[i]?=some s->RS W G s) (c:E.gV=fd.dh:=by rfl) (e:xJ fd E=true:=by kernel_rfl) (f:∀ (W:Wd) (gx:GX W) call d,(Oi (cm gx a fuel ⟨fd.scope.names,call,d,fd.code,false⟩) fd.body i (b gx (cm gx a fuel ⟨fd.scope.names,call,d,fd.code,false⟩))).1=E.body call:=by intros;kernel_rfl):FK fd E:=
 λW gx=>wU c e λcall d=>f W gx call d▸(Oi (cm gx a fuel ⟨fd.scope.names,call,d,fd.code,false⟩) fd.body i (b gx (cm gx a fuel ⟨fd.scope.names,call,d,fd.code,false⟩))).2
set_option backward.match.sparseCases false
end
section
variable{W:Wd}{c:Cx W}{A:aeX}{d:Nat}
theorem qx:cy c A a g0:=λd d d d h W=>bO h W
theorem lZ{x m:Int}(h:0<m):0<=x.fmod m/\x.fmod m<m:=⟨Int.fmod_nonneg_of_pos x h,Int.fmod_lt_of_pos x h⟩
theorem qV (a:0<=x) (b:x<2147483648):IntMulOk x y:=IntMulOk.of_left (intBits_le_64 (Int.le_trans (by decide) a) (aiC b (by decide)))
theorem TB (e:ak c) (q:aP c d A) (t:c.comp=none) (p:c.scope=oA.scope) (r:W.G.boot "int" =true){a b top:Int}(l:0<top) (E:0<=b) (F:b<2147483648) (k:lk 0 σ.loc=some (.ref i)) (u:lk 1 σ.loc=some (.int top)) (o:σ.st.get i=some (.list [.int a,.int b])) (G:cL i σ.mark=false) (S:Wf 10 σ.st) (H:i<1024):
  ∃ σ₂ x T f,cy c A (oA.body) (hW σ σ₂ x)/\0<=x/\x<top/\σ₂.st.get i=some (.list [.int T,.int f])/\0<=f/\f<2147483648:=by
 have g:c.scope.names[(0:Nat)]?=some (("source" :Str),NameKind.local):=by rw [p];kernel_rfl
 have w:c.scope.names[(1:Nat)]?=some (("top" :Str),NameKind.local):=by rw [p];kernel_rfl
 have I:c.scope.names[(2:Nat)]?=some (("drawn" :Str),NameKind.local):=by rw [p];kernel_rfl
 have s:c.scope.names[(3:Nat)]?=some (("int" :Str),aeW):=by rw [p];kernel_rfl
 have h:cH "source" =true:=by kernel_rfl
 have z:cH "top" =true:=by kernel_rfl
 have V:cH "drawn" =true:=by kernel_rfl
 have L:c.scope.isGenerator=false:=by rw [p];kernel_rfl
 have M:c.scope.isCoroutine=false:=by rw [p];kernel_rfl
 have N:∀ {loc P lo mk}{v:AO}{n:Nat},(LS.put ⟨loc,P,σ.st,n,lo,mk⟩ i v).st.get i=some v:=fun{loc P lo mk v n}=>by
  show (Tr.set v 10 σ.st i).get i=_;rw [get_set S H H,if_pos rfl]
 by_cases Q:a>0
 ·have R:lk 0 ((2,O.int (a.fmod top))::σ.loc)=some (.ref i):=by rw [eC,if_neg (show ¬ (0:Nat)=2 by decide),k]
  have X:lk 1 ((2,O.int (a.fmod top))::σ.loc)=some (.int top):=by rw [eC,if_neg (show ¬ (1:Nat)=2 by decide),u]
  have Z:lk 2 ((2,O.int (a.fmod top))::σ.loc)=some (.int (a.fmod top)):=by rw [eC,if_pos rfl]
  refine (vj _ (a.fmod top) (a.fdiv top) b (BS (ifS (σ₂:=LS.put ⟨(2,O.int (a.fmod top))::σ.loc,σ.aK,σ.st,σ.n,σ.lo,σ.mark⟩ i (.list [.int (a.fdiv top),.int b])) ?_ ?_ qx) qx) ((lZ l).1) ((lZ l).2) N E F)
  ·exact Mj e q (decide_eq_true Q) (by kernel_rfl) (oz (j:=0) e g h k o rfl) fP
  ·refine wY (ud e t (by kernel_rfl) I (qQ e (Int.ne_of_gt l) (mJ e (by kernel_rfl) s r (oz (j:=0) e g h k o rfl)) (f6 e w z u))) ?_
   refine wY (Ml (j:=0) (i:=i) (a:=a) (b:=b) (x:=a.fdiv top) e (by decide) (HM e q t L M (Int.ne_of_gt l) (oz (j:=0) e g h R o rfl) (f6 e w z X)) (kO e g h) (λqa=>by rw [nO,R];rfl) o G) ?_
   exact BS (Mk (f6 e I V Z)) qx
 ·have B:(b*39373+7).fmod 2147483647<2147483648:=aiC (lZ (x:=b*39373+7) (m:=2147483647) (by decide)).2 (by decide)
  have C:0<=(b*39373+7).fmod 2147483647:=(lZ (by decide)).1
  generalize hbb:(b*39373+7).fmod 2147483647=f at C B;have D:(LS.put σ i (.list [.int a,.int f])).st.get i=some (.list [.int a,.int f]):=N;have m1:=qV (y:=39373) E F;have m2:=qV (y:=f) C B;refine (vj _ ((((f*f).fmod 2147483629).fdiv 32).fmod top) a f (wY (NX ?_ qx) (wY (σ₂:=LS.put σ i (.list [.int a,.int f])) ?_ (BS (Mk ?_) qx))) ((lZ l).1) ((lZ l).2) D C B)
  ·exact Mj e q (decide_eq_false Q) (by kernel_rfl) (oz (j:=0) e g h k o rfl) fP
  ·refine Ml (j:=1) (i:=i) (a:=a) (b:=b) (x:=f) e (by decide) ?_ (kO e g h) (λqa=>by rw [nO,k];rfl) o G
   rw [←hbb];exact qQ e (by decide) (mJ e (by kernel_rfl) s r (wX e (oy e m1 (oz (j:=1) e g h k o rfl) fP) fP)) fP
  ·exact qQ e (Int.ne_of_gt l) (mJ e (by kernel_rfl) s r (HM e q t L M (by decide) (qQ e (by decide) (mJ e (by kernel_rfl) s r (oy e m2 (oz (j:=1) e g h k D rfl) (oz (j:=1) e g h k D rfl))) fP) fP)) (f6 e w z u)
noncomputable def A9 (m:Nat) (f:Nat->Rs):Rs:=afX (motive:=λd=>Rs) (f (nat_lit 0)) (λn c=>join (f (afb n)) c) m
theorem TC{f:Nat->Rs}(a:y≠.no):A9 m f=y->∀ r,r<=m->f r=y:=by
 induction m with
 |zero=>intro h r c;rw[Nat.le_zero.mp c];exact h
 |succ m d=>
  intro h r c;refine ae (mc (show join (f (m+1)) (A9 m f)=y from h) a) ?_;clear h a;intro A W;rcases Nat.lt_or_eq_of_le c with q|q
  ·exact d W r (aib q)
  ·rw[q];exact A
theorem zw (h:xj v v=true):join (.ok v) (.ok v)=.ok v:=by
 show aN Rs.no (xj v v) (Rs.ok v)=_;rw[h];rfl
noncomputable def LS.bare(σ:LS):LS:=⟨[],σ.aK,σ.st,σ.n,σ.lo,σ.mark⟩
noncomputable def Js:Sc:=λc d A=>aD .no (lk (nat_lit 0) c.loc) λa=>jf .no a λi=>aD .no (lk (nat_lit 1) c.loc) λb=>dR .no b λt=>afw (motive:=λd=>Rs) t (λn=>aD .no (c.st.get i) λo=>sD .no o λd=>
 aN .no (and (not (cL i c.mark)) (and (afl i c.n) (afl (nat_lit 0) n))) (A9 (agf n) λr=>A (.int (.ofNat r)) c.bare)) (λd=>.no)
noncomputable def Az(i n:Nat):List Nat:=(afT n).filter λj=>j !=i
theorem zh:j∈Az i n↔j<n/\j≠i:=by unfold Az;rw[ahR,agF,bne_iff_ne]
open Classical in
theorem Rx (hc : ak c) (hA : aP c d A) (hn : c.comp = none) (hs : c.scope = oA.scope) (hb : W.G.boot "int" = true) : cy c A (oA.body) Js := by
  intro σ kn kr y h hy s α N E R hE Q cW cX
  refine Y (aR h hy) fun a0 l0 h0 => ?_
  refine Y (i0 h0 hy) ?_; clear h0; intro i bj h1; subst bj
  refine Y (aR h1 hy) fun b0 l1 h2 => ?_
  refine Y (jT h2 hy) ?_; intro t bj h3; subst bj
  induction t using afw with
  | negSucc => exact bO h3 hy
  | ofNat n =>
  refine Y (aR h3 hy) fun o0 hg h4 => ?_
  refine Y (vr h4 hy) ?_; clear h4; intro k bj h5; subst bj
  refine ae (aS h5 hy) fun tE h6 => ?_
  refine ae (ad9.mp tE) fun rF tE => ?_
  refine ae (ad9.mp tE) fun hi Ds => ?_
  have rF := (aeK _).mp rF
  have hi : i < σ.n := aei hi
  have Ds : 0 < n := aei Ds
  have adj := TC hy h6
  refine aH (R.obj i _ hi hg) fun ad ob lS hN jz => ?_
  refine r9 jz.inv ?_; clear jz; intro a b t1 t2 nn bj b0 b1; subst bj
  have du : i < 1024 := aej hi R.bD
  let dj : LS := ⟨σ.loc, σ.aK, Tr.set (.list [.int a, .int b]) 10 σ.st i, σ.n, σ.lo, Az i σ.n ++ σ.mark⟩
  have hY : ∀ j, j < σ.n → dj.st.get j = if j = i then some (.list [.int a, .int b]) else σ.st.get j := fun j hj => get_set R.wf du (aej hj R.bD)
  have dn : SR c dj s α N := ⟨R.fr, R.aK, R.news, R.nodup, R.inj, fun j o hj e => by
    rw [hY j hj] at e
    by_cases q : j = i
    · rw [if_pos q] at e
      have bj := aea e; subst o
      exact (bB ad _ (q ▸ lS) hN (.list (vs := [.int a t1, .int b t2]) (.cons (.int _ _) (.cons (.int _ _) .nil))))
    · rw [if_neg q] at e
      exact R.obj j o hj e, R.all, R.hi, R.wf.set, R.bD, R.len, R.low, fun j hj => (aeH.mp hj).elim (fun z => (zh.mp z).1) (R.bt j), R.gens, R.os, R.aZ⟩
  have wL : cL i dj.mark = false := by
    induction q : cL i dj.mark using aee with
    | false => rfl
    | true =>
      rcases aeH.mp (nP q) with z | z
      · exact absurd rfl (zh.mp z).2
      · exact absurd z (iy rF)
  refine zb (TB hc hA hn hs hb (σ := dj) (i := i) (a := a) (b := b) (top := afs n) (aiH.mpr Ds) b0 b1 l0 l1 (by rw [hY i hi, if_pos rfl]) wL dn.wf du) fun σ₂ x a' b' uc x0 x1 Zo b0' b1' => ?_
  have hx : ∃ r : Nat, x = afs r ∧ r ≤ agf n := by
    refine aL (Int.eq_ofNat_of_zero_le x0) ?_; clear x0; intro r bj; subst bj
    refine (ay r rfl ?_)
    exact Nat.le_pred_of_lt (aiH.mp x1)
  refine Y hx ?_; clear hx; intro r bj hr; subst bj
  refine uc dj (fun u_ => .no) (fun v bu => eF (v = .int (.ofNat r) ∧ bu = σ₂) (.ok .none)) (.ok .none) (vn.trans (eB ⟨rfl, rfl⟩)) nofun s α N E dn (fun C e bu s' bG N' q => nomatch q) Q (fun bu s' bG N' q => nomatch q) fun v bu val s' bG N' q cA g hv => ?_
  refine ae (ef q nofun) fun bj u_ => ?_; obtain ⟨rfl, rfl⟩ := bj
  refine aL hv.inv ?_; clear hv; intro tv bj; subst bj
  have p := g.ge.pre
  have ge : Ge α N α N' := ⟨afA _, g.ge.keep, fun u_ h => .inl h, g.ge.tab⟩
  have keep : ∀ (j : Nat) aj o, j ≠ i → α[j]? = some aj → (aj, o) ∈ N → (aj, o) ∈ N' := fun j aj o hj h1 h2 => (g.bf j (aef _ (zh.mpr ⟨by have := vA h1; rw [R.len] at this; exact this, hj⟩))).2 aj o h1 h2
  refine cX _ σ.bare _ s' α N' (adj r hr) ?_ ?_ (.int _ _)
  · refine ⟨?_, R.aK, cA.news, cA.nodup, R.inj, fun j o hj e => ?_, fun a h => cA.all a (p.subset h), cA.hi, R.wf, R.bD, R.len, R.low, R.bt, cA.gens, cA.os, cA.aZ⟩
    · refine Y cA.fr fun m F hm => ?_
      exact (ay m F (by unfold NR; rw [hn]; intro n v e; exact aT e))
    · have e : σ.st.get j = some o := e
      have hj : j < σ.n := hj
      by_cases q : j = i
      · subst q
        rw [hg] at e
        have bj := aea e; clear e; subst o
        refine aH (cA.obj j _ (aej hi g.n) Zo) fun a2 o2 z1 z2 z3 => ?_
        refine be z3.inv ?_; intro uN n2 bj r2; subst bj
        refine aH (jV r2 rfl) ?_; clear r2; intro w1 w2 bj v1 v2; subst bj
        refine aL v1.inv ?_; clear v1; intro u1 bj; subst bj
        refine aL v2.inv ?_; clear v2; intro u2 bj; subst bj
        exact (bB a2 _ (jc p z1 (by rw [R.len]; exact hi)) z2 (.src b0' b1'))
      · refine aH (R.obj j o hj e) fun a2 o2 z1 z2 z3 => ?_
        refine (bB a2 o2 z1 (keep j a2 o2 q z1 z2) (z3.wd ge fun hx j' d o3 h5 h6 e4 => keep j' d o3 (fun z => ?_) h5 h6))
        subst z
        refine eY hx ?_; clear hx; intro C es bj; subst bj
        refine ir z3.inv fun j2 d2 es2 n2 u_ e5 h7 h8 u_ => ?_
        obtain rfl := afR (e4.symm.trans e5)
        obtain rfl := aea (lS.symm.trans h7)
        exact absurd (congrArg Obj.cls (R.uniq hN h8)) (by show ¬ (agw "list" = agw "dict"); decide)
  · refine ⟨ge, aeu _, fun u_ u_ => rfl, aeu _, rfl, fun j aj o u_ h1 h2 nt => keep j aj o (fun z => ?_) h1 h2, fun j hj => ⟨rfl, fun aj o h1 h2 => keep j aj o (fun z => ?_) h1 h2⟩⟩
    · subst z
      exact nt _ rfl hg
    · subst z
      exact absurd hj (iy rF)
noncomputable def Jt:aM:=⟨2,[],[true,true],[],λc=>Js⟩
theorem Zp:FK oA Jt:=by
 intro W gx;have a:k7 W oA ⟨2,[],[true,true],[],λb=>g0⟩:=wU rfl (by kernel_rfl) λk d=>Ma
 exact ⟨a.n,a.gV,a.Bq,a.Lw,a.q8,a.Br,a.cells,λcall d i c A e f g h b=>Rx e f g h (jM gx (by kernel_rfl))⟩
end
noncomputable def Ju:aM:=⟨1,[],[true],[],λk=>(ag [aC (aq 1) (af (J 0) (wI 0)),aB (au .Eq (J 1) (wS s0)) (ag [aG (bb false (aY (U [af (J 0) (wI 1)])) (az (bc k) 110 (U [af (J 0) (wI 3)])))]) aF,aB (au .In (J 1) (ai (U [wS s1,wS s2]))) (ag [aG (az (bc k) 110 (U [af (J 0) (wI 1)]))]) aF,aC (aq 2) (bC (au .Eq (J 1) (wS s3)) (af (J 0) (wI 1)) (bC (au .Eq (J 1) (wS s4)) (af (J 0) (wI 3)) (ai aI))),aC (aq 3) (bC (au .Eq (J 1) (wS s4)) (aQ sM (U [af (J 0) (wI 2)])) (eg aI)),dq (aq 4) (J 2) (ag [bq (bT cZ nQ (J 3) (U [az (bc k) 110 (U [J 4])]))]),aG (J 3)])⟩
theorem Zq:FK HN Ju:=fK ac5
noncomputable def Jv:aM:=⟨2,[],[true,false],[(1,some 1)],λk=>(ag [aC (aq 2) (af (J 0) (wI 0)),aB (au .Eq (J 2) (wS s0)) (ag [aC (aq 3) (og k [136,274] (aA 1) (U [af (J 0) (wI 1)])),aG (ai (U [wS s0,J 3,af (J 0) (wI 2),az k 115 (U [af (J 0) (wI 3),aA 1])]))]) aF,aB (au .Eq (J 2) (wS s1)) (ag [aG (ai (U [wS s1,az k 115 (U [af (J 0) (wI 1),aA 1])]))]) aF,aB (au .Eq (J 2) (wS s2)) (ag [aG (ai (U [wS s2,az k 115 (U [af (J 0) (wI 1),aA 1]),af (J 0) (wI 2)]))]) aF,aB (au .Eq (J 2) (wS s3)) (ag [aG (ai (U [wS s3,aQ bJ (U [bP false (.one 1) true [(3,1)] (cu (af (J 0) (wI 1))) bo (az k 115 (U [J 1,aA 3]))])]))]) aF,aB (au .Eq (J 2) (wS s4)) (ag [aC (aq 4) (aQ bJ (U [bP false (.one 1) true [(2,1)] (cu (af (J 0) (wI 2))) bo (og k [136,274] (aA 2) (U [J 1]))])),aG (ai (U [wS s4,af (J 0) (wI 1),J 4,aQ bJ (U [bP false (.one 1) true [(3,1)] (cu (af (J 0) (wI 3))) bo (az k 115 (U [J 1,aA 3]))])]))]) aF,aG (J 0)])⟩
theorem Zr:FK HO Jv:=fK aW
noncomputable def Jw:aM:=⟨1,[],[true],[],λk=>(ag [bk [139] s5 (J 0) (eg aI)])⟩
theorem Zs:FK HP Jw:=fK aW
noncomputable def Jx:aM:=⟨2,[],[true,true],[],λk=>(ag [aB (au .IsNot (J 1) wZ) (ag [aG (J 1)]) aF,bq (bT cZ dY (aw [139] s5 (J 0)) (U [bb false (wS s6) (aQ mW (U [bb false (aQ dB (U [aw [139] s5 (J 0)])) (wI 1)]))])),aG (af (aw [139] s5 (J 0)) (iM (wI 1)))])⟩
theorem Zt:FK HQ Jx:=fK aW
noncomputable def Jy:aM:=⟨4,[.int 0],[true,true,true,true],[(6,none),(4,none)],λk=>(ag [aC (fc 4) (az k 139 aI),aC (aq 5) (aQ bJ (U [bP false (.one 1) true [(3,4)] (cu (J 0)) bo (az k 115 (U [J 1,vW [(139,136)] s7 (aA 3)]))])),aB (au .NotIn wZ (az (bc k) 110 (U [J 1]))) (ag [aG (ai (U [J 5,J 1,aQ bJ (U [aw [139] s5 (aA 4)])]))]) aF,aB (au .In (J 2) (ai (U [wS s0,wS s8]))) (ag [aC (fc 6) (af (af (J 5) (wI 0)) (wI 1))]) (ag [aC (fc 6) jG]),aG (ai (U [J 5,az k 115 (U [J 1,mH 1 146 s9 0 [(1,6)]]),aQ bJ (U [aw [139] s5 (aA 4)])]))])⟩
theorem Zu:FK qR Jy:=yQ aW 4 (λgx m=>adf gx m)
noncomputable def Jz:aM:=⟨3,[],[true,true,true],[],λk=>(ag [dq (aq 3) (az (bc k) 110 (U [J 0])) (ag [aB (au .Is (J 3) wZ) (ag [cw 52 (U [wS s10,J 2])]) aF,aB (c6 (au .NotEq (J 3) (wS gw)) (c6 (au .NotIn (J 3) (J 1)) bo)) (ag [cw 52 (U [bb false (wS s12) (aQ mW (U [J 3])),J 2])]) aF])])⟩
theorem Zv:FK HR Jz:=fK aW
noncomputable def JA:aM:=⟨6,[],[true,true,true,true,true,true],[],λk=>(ag [bk [216,719,852] iW (J 0) (J 1),bk [216,626,752] jI (J 0) (J 2),bk [216,601] pA (J 0) (J 3),bk [216,690,752] gy (J 0) (J 4),bk [216] NZ (J 0) (J 5)])⟩
theorem Zw:FK HS JA:=fK aW
noncomputable def JC:aM:=⟨2,[],[false,true],[(0,some 0)],λk=>(ag [aC (ff 2 (aV (aq 3) (aV (aq 2) bL))) (ai (U [af (J 1) (wI 0),af (J 1) (wI 1)])),aB (au .Eq (J 2) (wS pB)) (ag [aG (a9 k [(216,194)] pB (aA 0) (U [J 3,af (J 1) (wI 2)]))]) aF,aB (au .Eq (J 2) (wS s0)) (ag [aG (ai (U [wS s0,af (J 1) (wI 2),af (J 1) (wI 3),a9 k [(216,182)] rO (aA 0) (U [af (J 1) (wI 4)])]))]) aF,aB (au .Eq (J 2) (wS s3)) (ag [aG (ai (U [wS s3,aQ bJ (U [bP false (.one 1) true [(2,0)] (cu (af (J 1) (wI 2))) bo (a9 k [(216,182)] rO (aA 2) (U [J 1]))])]))]) aF,aB (au .Eq (J 2) (wS s2)) (ag [aG (ai (U [wS s2,a9 k [(216,182)] rO (aA 0) (U [af (J 1) (wI 2)]),af (J 1) (wI 3)]))]) aF,aB (au .Eq (J 2) (wS N0)) (ag [aG (ai (U [wS N0]))]) aF,aG (a9 k [(216,189)] C3 (aA 0) aI)])⟩
theorem Zx:FK HU JC:=fK aW
noncomputable def JF:aM:=⟨1,[],[true],[],λk=>(ag [aG (bC (au .Is (aw [216] NZ (J 0)) wZ) (ai (U [wS N2])) jG)])⟩
theorem Zy:FK HV JF:=fK aW
noncomputable def JH:aM:=⟨3,[],[true,true,true],[],λk=>(ag [aC (aq 4) (aQ bJ (U [bP false (.one 1) true [] (cu (J 2)) bo (af (J 1) (wI 0))])),aB (au .Eq (aQ dB (U [J 2])) (wI 1)) (ag [aC (aq 5) (a9 k [(216,201)] s23 (J 0) (U [J 1,af (J 2) (wI 0)])),aB (au .IsNot (J 5) wZ) (ag [aG (J 5)]) aF]) aF,dq (aq 3) (qD (J 2) (iM (wI 1))) (ag [aB (bI (au .NotEq (af (J 3) (wI 1)) (ai aI)) (bI (au .NotEq (af (J 3) (wI 2)) (ai aI)) dP)) (ag [cw 76 (U [wS s24,J 1])]) aF]),aG (a9 k [(216,213)] pC (J 0) (U [J 1,J 4,af (J 2) (iM (wI 1))]))])⟩
theorem Zz:FK HW JH:=fK aW
noncomputable def JJ:aM:=⟨3,[],[true,true,true],[],λk=>(ag [aC (cz 3 (aV (aq 3) (aV (aq 4) (aV (aq 5) bL)))) (J 2),aB (c6 (au .In (J 3) (aw [216,601] pA (J 0))) (c6 (au .NotEq (J 3) (wS kx)) bo)) (ag [aG (a9 k [(216,208)] yF (J 0) (U [J 1,J 2,ai (U [wS fu,J 3])]))]) aF,aB (c6 (au .Eq (J 3) (wS kx)) (c6 (au .IsNot (aw [216,690,752] gy (J 0)) wZ) bo)) (ag [aG (a9 k [(216,208)] yF (J 0) (U [J 1,J 2,aw [216,690,752] gy (J 0)]))]) aF,aB (au .In (J 3) (cC (.tup [.str C4,.str C5,.str C6,.str C7,.str dX,.str C8,.str C9,.str Dc,.str Dd]))) (ag [aG (a9 k [(216,208)] yF (J 0) (U [J 1,J 2,ai (U [wS il,J 3])]))]) aF,aB (au .Eq (J 3) (wS lU)) (ag [aG (a9 k [(216,208)] yF (J 0) (U [J 1,J 2,ai (U [wS lU])]))]) aF,aB (au .NotEq (J 3) (wS yG)) (ag [aG wZ]) aF,aB (bI (au .NotEq (J 4) (ai aI)) (bI (au .Gt (aQ dB (U [J 5])) (wI 1)) dP)) (ag [cw 76 (U [wS s41,J 1])]) aF,aG (ai (U [wS s1,bC (au .NotEq (J 5) (ai aI)) (a9 k [(216,182)] rO (J 0) (U [af (J 5) (wI 0)])) (a9 k [(216,189)] C3 (J 0) aI)]))])⟩
theorem ZA:FK HX JJ:=fK aW
noncomputable def JK:aM:=⟨4,[],[true,true,true,true],[],λk=>(ag [aB (bI (au .NotEq (af (J 2) (wI 1)) (ai aI)) (bI (au .NotEq (af (J 2) (wI 2)) (ai aI)) dP)) (ag [cw 76 (U [bb false (af (J 2) (wI 0)) (wS s42),J 1])]) aF,aG (J 3)])⟩
theorem ZC:FK HY JK:=fK aW
noncomputable def JL:aM:=⟨4,[],[false,true,true,true],[(0,some 0)],λk=>(ag [aC (aq 4) (a9 (bc k) [(601,548)] N3 (aw [216,719,852] iW (aA 0)) (U [aw [216,626,752] jI (aA 0),J 2,wS lV,J 1])),aB (au .NotIn (af (aw [601] ip (aw [216,719,852] iW (aA 0))) (J 4)) (ai (U [wS jJ,wS lW]))) (ag [cw 76 (U [bb false (J 4) (wS s48),J 1])]) aF,aC (cz 2 (aV (aq 5) (aV (aq 6) bL))) (af (aw [216,601] pA (aw [216,719,852] iW (aA 0))) (J 4)),aB (c6 (au .NotEq (af (J 3) (wI 1)) (ai aI)) (c6 (au .NotEq (aQ dB (U [af (J 3) (wI 1)])) (aQ dB (U [J 5]))) bo)) (ag [cw 76 (U [bb false (J 4) (wS s49),J 1])]) aF,aB (c6 (au .NotEq (af (J 3) (wI 2)) (ai aI)) (c6 (au .NotEq (aQ dB (U [af (J 3) (wI 2)])) (aQ dB (U [J 6]))) bo)) (ag [cw 76 (U [bb false (J 4) (wS s50),J 1])]) aF,aC (aq 7) (bC (au .NotEq (af (J 3) (wI 1)) (ai aI)) (aQ bJ (U [af (J 3) (wI 1)])) (ua (ai (U [wZ])) (aQ dB (U [J 5])))),aB (au .NotEq (af (J 3) (wI 2)) (ai aI)) (ag [aG (ai (U [wS s4,J 4,J 7,aQ bJ (U [bP false (.one 1) true [(2,0)] (cu (af (J 3) (wI 2))) bo (a9 k [(216,182)] rO (aA 2) (U [J 1]))])]))]) aF,aG (ai (U [wS s4,J 4,J 7,aQ bJ (U [bP false (.one 1) true [(2,0)] (cu (J 6)) bo (a9 k [(216,189)] C3 (aA 2) aI)])]))])⟩
theorem ZD:FK HZ JL:=fK aW
noncomputable def JM:aM:=⟨6,[.none],[true,true,true,true,true,true],[],λk=>(ag [aG (a9 k [(216,182)] rO (az k 216 (U [J 0,J 1,J 2,J 3,J 5])) (U [J 4]))])⟩
theorem ZE:FK H0 JM:=fK aW
noncomputable def JO:aM:=⟨1,[],[true],[],λk=>(ag [aC (aq 1) (af (J 0) (wI 0)),aB (au .Eq (J 1) (wS s0)) (ag [aG (az (bc k) 233 (U [af (J 0) (wI 3)]))]) aF,aB (au .In (J 1) (ai (U [wS s1,wS s2]))) (ag [aG (az (bc k) 233 (U [af (J 0) (wI 1)]))]) aF,aC (aq 2) (bC (au .Eq (J 1) (wS s3)) (af (J 0) (wI 1)) (bC (au .Eq (J 1) (wS s4)) (af (J 0) (wI 3)) (ai aI))),aG (oM (c0 .NotEq (J 1) (wS N2)) (aQ BA (U [bP false (.one 1) true [] (cu (J 2)) bo (az (bc k) 233 (U [J 1]))])))])⟩
theorem ZF:FK H2 JO:=fK aW
noncomputable def JQ:aM:=⟨4,[],[true,true,true,true],[],λk=>(ag [aC (aq 4) (a9 (bc k) [(601,548)] N3 (J 0) (U [J 1,aQ bJ (U [bP false (.one 1) true [] (cu (J 2)) bo (af (J 1) (wI 0))]),wS lV,J 3])),aB (au .NotEq (af (aw [601] ip (J 0)) (J 4)) (wS gA)) (ag [cw 52 (U [bb false (J 4) (wS s52),J 3])]) aF,aG (J 4)])⟩
theorem ZG:FK H3 JQ:=fK aW
noncomputable def JR:aM:=⟨4,[],[true,true,true,true],[],λk=>(ag [aC (aq 4) (eg aI),dq (cz 2 (aV (aq 5) (aV (aq 6) bL))) (af (J 2) (wI 1)) (ag [aB (bI (au .In (J 5) (bP false (.one 1) true [] (cu (J 4)) bo (af (J 1) (wI 0)))) (bI (au .In (J 5) (cC (.tup [.str C4,.str C5,.str C6,.str C7,.str dX,.str C8,.str C9,.str Dc,.str Dd]))) (bI (au .In (J 5) (ai (U [wS kx,wS lU,wS yG]))) dP))) (ag [cw 52 (U [bb false (bb false (wS De) (J 5)) (wS s54),J 3])]) aF,aC (aq 7) (eg aI),dq (aq 8) (J 6) (ag [aB (bI (au .NotEq (af (af (J 8) (iM (wI 1))) (wI 1)) (ai aI)) (bI (au .NotEq (af (af (J 8) (iM (wI 1))) (wI 2)) (ai aI)) dP)) (ag [cw 52 (U [wS s55,J 3])]) aF,bq (bT cZ dY (J 7) (U [az (bc k) 238 (U [J 0,J 1,J 8,J 3])]))]),bq (bT cZ dY (J 4) (U [ai (U [J 5,aQ bJ (U [J 7])])]))]),aG (J 4)])⟩
theorem ZH:FK H4 JR:=fK aW
noncomputable def JU:aM:=⟨1,[],[true],[],λk=>(ag [aC (aq 1) (af (J 0) (wI 0)),aB (au .Eq (J 1) (wS s0)) (ag [aG (ai (U [af (J 0) (wI 3)]))]) aF,aB (bI (au .Eq (J 1) (wS s1)) (bI (au .Eq (J 1) (wS s2)) dP)) (ag [aG (ai (U [af (J 0) (wI 1)]))]) aF,aB (au .Eq (J 1) (wS s3)) (ag [aG (af (J 0) (wI 1))]) aF,aG (bC (au .Eq (J 1) (wS s4)) (af (J 0) (wI 3)) (ai aI))])⟩
theorem ZI:FK H5 JU:=fK aW
noncomputable def JW:aM:=⟨2,[],[true,true],[],λk=>(ag [aC (aq 2) (af (J 0) (wI 0)),aB (au .Eq (J 2) (wS s0)) (ag [aG (ai (U [wS s0,af (J 0) (wI 1),af (J 0) (wI 2),af (J 1) (wI 0)]))]) aF,aB (au .Eq (J 2) (wS s1)) (ag [aG (ai (U [wS s1,af (J 1) (wI 0)]))]) aF,aB (au .Eq (J 2) (wS s2)) (ag [aG (ai (U [wS s2,af (J 1) (wI 0),af (J 0) (wI 2)]))]) aF,aB (au .Eq (J 2) (wS s3)) (ag [aG (ai (U [wS s3,aQ bJ (U [J 1])]))]) aF,aG (bC (au .Eq (J 2) (wS s4)) (ai (U [wS s4,af (J 0) (wI 1),af (J 0) (wI 2),aQ bJ (U [J 1])])) (J 0))])⟩
theorem ZJ:FK H6 JW:=fK aW
noncomputable def JX:aM:=⟨2,[],[true,false],[(1,some 1)],λk=>(ag [aB (au .Eq (af (J 0) (wI 0)) (wS fu)) (ag [aG (bT n4 oN (aA 1) (U [af (J 0) (wI 1),J 0]))]) aF,aG (az k 257 (U [J 0,bP false (.one 1) true [(3,1)] (cu (az k 250 (U [J 0]))) bo (az (bc k) 262 (U [J 1,aA 3]))]))])⟩
theorem ZK:FK H7 JX:=fK aW
noncomputable def JY:aM:=⟨2,[],[true,false],[(1,some 1)],λk=>(ag [aB (au .Eq (af (J 0) (wI 0)) (wS s0)) (ag [aC (aq 0) (ai (U [wS s0,og k [136,274] (aA 1) (U [af (J 0) (wI 1)]),af (J 0) (wI 2),af (J 0) (wI 3)]))]) (ag [aB (au .Eq (af (J 0) (wI 0)) (wS s4)) (ag [aC (aq 0) (ai (U [wS s4,af (J 0) (wI 1),aQ bJ (U [bP false (.one 1) true [(2,1)] (cu (af (J 0) (wI 2))) bo (og k [136,274] (aA 2) (U [J 1]))]),af (J 0) (wI 3)]))]) aF]),aG (az k 257 (U [J 0,bP false (.one 1) true [(3,1)] (cu (az k 250 (U [J 0]))) bo (az (bc k) 267 (U [J 1,aA 3]))]))])⟩
theorem ZL:FK H8 JY:=fK aW
noncomputable def JZ:aM:=⟨1,[],[true],[],λk=>(ag [aG wZ])⟩
theorem ZM:FK H9 JZ:=fK aW
noncomputable def J0:aM:=⟨1,[],[true],[],λk=>(ag [aG (az (bc k) 267 (U [J 0,cC (.glob 274)]))])⟩
theorem ZN:FK Ia J0:=fK aW
noncomputable def J1:aM:=⟨3,[],[true,true,true],[],λk=>(ag [aG (af (af (aw [626,719] nE (af (aw [719] jK (J 2)) (af (J 0) (wI 1)))) (J 1)) (wI 2))])⟩
theorem ZO:FK Ib J1:=fK aW
noncomputable def J2:aM:=⟨3,[],[true,true,true],[(6,none),(5,none),(4,none)],λk=>(ag [aB (au .Eq (af (J 0) (wI 0)) (wS s3)) (ag [aG jG]) aF,aB (au .NotEq (af (J 0) (wI 0)) (wS s4)) (ag [aG (aY aI)]) aF,aC (aq 3) (af (aw [719] jK (J 2)) (af (J 0) (wI 1))),aC (fc 4) (pX (aw [626,647,668,690,752] f7 (J 3)) (af (J 0) (wI 3))),aC (fc 6) (pX (aw [626,647,690,752] eA (J 3)) (af (J 0) (wI 2))),tY 3 302 yH 3 [(1,6)] (fc 5),aG (bP false (.two 1 2) true [(5,5),(6,4)] (cu (az k 300 (U [J 0,J 1,J 2]))) bo (ai (U [J 1,az (bc k) 262 (U [az (bc k) 267 (U [J 2,aA 5]),aA 6])])))])⟩
theorem ZP:FK qS J2:=yQ aW 5 (λgx _=>adi gx)
noncomputable def J3:aM:=⟨2,[],[true,true],[],λk=>(ag [aC (aq 2) (af (aw [719] jK (J 1)) (J 0)),aG (ai (U [wS s4,J 0,aQ bJ (U [aw [626,647,690,752] eA (J 2)]),aQ bJ (U [bP false (.one 1) true [] (cu (aw [626,647,668,690,752] f7 (J 2))) bo (ai (U [wS fu,J 1]))])]))])⟩
theorem ZQ:FK Ic J3:=fK aW
noncomputable def J4:aM:=⟨2,[],[true,true],[],λk=>(ag [aC (aq 2) (eg aI),qH (aq 3) (aQ dB (U [aw [626,719] nE (af (aw [719] jK (J 1)) (af (J 0) (wI 1)))])) (ag [bq (bT cZ nQ (J 2) (U [bP false (.two 1 2) true [] (cu (az (bc k) 305 (U [J 0,J 3,J 1]))) bo (J 2)]))]),aG (J 2)])⟩
theorem ZR:FK Ie J4:=fK aW
noncomputable def J5:aM:=⟨2,[],[true,true],[],λk=>(ag [bk [346,852] g6 (J 0) (J 1),bk [346] fw (J 0) (eg aI),bk [346] f9 (J 0) (eg aI)])⟩
theorem ZT:FK Ig J5:=fK aW
noncomputable def J6:aM:=⟨2,[],[true,true],[],λk=>(ag [aC (aq 2) (af (J 1) (wI 0)),aB (au .Eq (J 2) (wS s2)) (ag [bq (a9 k [(346,336),(601,576)] pD (J 0) (U [af (J 1) (wI 1)]))]) (ag [aB (au .Eq (J 2) (wS s3)) (ag [dq (aq 3) (af (J 1) (wI 1)) (ag [bq (a9 k [(346,336),(601,576)] pD (J 0) (U [J 3]))])]) (ag [aB (au .Eq (J 2) (wS s4)) (ag [bq (a9 k [(346,343)] s65 (J 0) (U [az (bc k) 281 (U [J 1])]))]) aF])])])⟩
theorem ZU:FK Ih J6:=fK aW
noncomputable def J7:aM:=⟨2,[],[true,true],[],λk=>(ag [aB (xK (J 1) (aw [346] f9 (J 0))) (ag [wh]) aF,aB (bI (au .In (J 1) (aw [346] fw (J 0))) (bI (au .Gt (aQ dB (U [aw [346] fw (J 0)])) (wI 40)) dP)) (ag [cw 76 (U [bb false (wS s66) jG])]) aF,bq (bT cZ dY (aw [346] fw (J 0)) (U [J 1])),dq (aq 2) (az (bc k) 315 (U [J 1,aw [346,852] g6 (J 0)])) (ag [bq (a9 k [(346,336),(601,576)] pD (J 0) (U [J 2]))]),bq (bT cZ tP (aw [346] fw (J 0)) aI),bq (bT cZ dY (aw [346] f9 (J 0)) (U [J 1]))])⟩
theorem ZV:FK Ii J7:=fK aW
noncomputable def J8:aM:=⟨1,[],[true],[],λk=>(ag [aG (bb false (aQ bJ (U [aw [647] fx (J 0)])) (ai (U [aw [647] dw (J 0)])))])⟩
theorem ZW:FK Ij J8:=fK aW
noncomputable def J9:aM:=⟨2,[],[true,true],[],λk=>(ag [bk [386] N4 (J 0) (J 1),bk [386] uU (J 0) er])⟩
theorem ZX:FK Ik J9:=fK aW
noncomputable def Ka:aM:=⟨3,[],[true,true,true],[],λk=>(ag [aB (eZ (cF (sQ (J 1)))) (ag [aG (c0 .Eq (J 1) (J 2))]) aF,aB (xF (J 1) (aw [386] uU (J 0))) (ag [aG (c0 .Eq (af (aw [386] uU (J 0)) (J 1)) (J 2))]) aF,aB (bI (au .NotIn (J 2) (aw [386] N4 (J 0))) (bI (sy (J 2) (aw [386] uU (J 0))) dP)) (ag [aG (bp false)]) aF,wN (J 2) (aw [386] uU (J 0)) (J 1),aG (bp true)])⟩
theorem ZY:FK Il Ka:=fK ac6
noncomputable def Kb:aM:=⟨4,[],[true,false,false,true],[(2,some 2),(1,some 1)],λk=>(ag [aB (bI (au .NotEq (aw [647] yI (aA 1)) (aw [647] yI (J 3))) (bI (au .NotEq (aQ dB (U [aw [647] fx (aA 1)])) (aQ dB (U [aw [647] fx (J 3)]))) dP)) (ag [aG (bp false)]) aF,aB (au .NotEq (bP false (.two 1 2) true [] (cu (aw [647] ky (aA 1))) bo (J 2)) (bP false (.two 1 2) true [] (cu (aw [647] ky (J 3))) bo (J 2))) (ag [aG (bp false)]) aF,aC (aq 6) (hV [kx] (U [aw [216,690,752] gy (aA 2)])),n8 (cz 2 (aV (aq 7) (aV (aq 4) bL))) (aw [626,647,668,690,752] f7 (J 0)) (ag [bX (af (aw [690] N5 (aA 2)) (J 7)) (J 6) (J 4)]),n8 (cz 2 (aV (aq 7) (aV (cz 2 (aV (aq 4) (aV (aq 5) bL))) bL))) (aw [647] ky (aA 1)) (ag [bX (ai (U [wS fu,af (af (aw [647] ky (J 3)) (J 7)) (wI 0)])) (J 6) (J 4)]),aC (aq 9) (az k 386 (U [bP false (.one 1) false [(2,2)] (cu (aw [626,647,690,752] eA (J 3))) (au .NotIn (J 1) (aw [626,647,690,752] eA (aA 2))) (J 1)])),qL (cz 2 (aV (aq 10) (aV (aq 11) bL))) (az (bc k) 362 (U [aA 1])) (az (bc k) 362 (U [J 3])) (ag [aC (aq 12) (az k 115 (U [J 10,mH 2 392 yJ 2 [(1,1)]])),aC (aq 13) (az (bc k) 262 (U [J 12,J 6])),aB (au .NotEq (az (bc k) 281 (U [J 13])) (az (bc k) 281 (U [J 11]))) (ag [aG (bp false)]) aF,qL (cz 2 (aV (aq 8) (aV (aq 14) bL))) (az (bc k) 110 (U [J 13])) (az (bc k) 110 (U [J 11])) (ag [aB (eZ (cF (a9 k [(386,383)] s75 (J 9) (U [J 8,J 14])))) (ag [aG (bp false)]) aF])]),aG (bp true)])⟩
theorem ZZ:FK qT Kb:=yQ aW 6 (λgx m=>adh gx m)
noncomputable def Kc:aM:=⟨2,[],[true,true],[],λk=>(ag [aC (aq 2) (af (aw [719] rP (J 1)) (aw [690] gA (J 0))),dq (aq 3) (aw [668,690] g7 (J 0)) (ag [aB (au .NotIn (J 3) (aw [668,690] g7 (J 2))) (ag [cw 88 (U [bb false (bb false (aw [690] gA (J 0)) (wS s78)) (J 3),aw [449,690] yK (J 0)])]) aF,aB (eZ (cF (az (bc k) 395 (U [J 2,af (aw [668,690] g7 (J 2)) (J 3),J 0,af (aw [719] uV (J 1)) (af (aw [668,690] g7 (J 0)) (J 3))])))) (ag [cw 88 (U [bb false (bb false (bb false (bb false (wS yL) (J 3)) (wS s82)) (aw [690] gA (J 0))) (wS s83),aw [449,690] yK (J 0)])]) aF]),dq (aq 3) (aw [668,690] g7 (J 2)) (ag [aB (c6 (au .NotIn (J 3) (aw [668,690] g7 (J 0))) (c6 (au .NotIn (J 3) (aw [668] Df (J 2))) bo)) (ag [cw 88 (U [bb false (bb false (bb false (bb false (wS yL) (J 3)) (wS s85)) (aw [690] gA (J 0))) (wS s86),aw [449,690] yK (J 0)])]) aF])])⟩
theorem Z0:FK Im Kc:=fK aW
noncomputable def Kd:aM:=⟨1,[],[true],[],λk=>(ag [aC (aq 1) (az k 346 (U [J 0])),dq (aq 2) (aQ nR (U [aw [719] jK (J 0)])) (ag [bq (a9 k [(346,336),(601,576)] pD (J 1) (U [az (bc k) 310 (U [J 2,J 0])]))]),dq (aq 3) (aw [719] uW (J 0)) (ag [aB (au .IsNot (aw [690] gA (J 3)) wZ) (ag [bq (az (bc k) 402 (U [J 3,J 0]))]) aF,aB (au .Eq (aw [690] gA (J 3)) (wS yM)) (ag [bq jG]) aF])])⟩
theorem Z1:FK Io Kd:=fK aW
noncomputable def Ke:aM:=⟨2,[],[true,true],[],λk=>(ag [aG (bC (au .Eq (J 0) (wS di)) (J 1) (bb false (bb false (J 0) (wS uX)) (J 1)))])⟩
theorem Z2:FK Ip Ke:=fK aW
noncomputable def Kf:aM:=⟨2,[],[true,true],[],λk=>(ag [aG (lL (c0 .Eq (J 1) (wS di)) (lL (c0 .Eq (J 0) (J 1)) (bT th zY (J 0) (U [bb false (J 1) (wS uX)]))))])⟩
theorem Z3:FK Iq Kf:=fK aW
noncomputable def Kg:aM:=⟨1,[],[true],[],λk=>(ag [bk [482] rQ (J 0) er,bk [482] yN (J 0) er,bk [482] pE (J 0) er])⟩
theorem Z4:FK Ir Kg:=fK aW
noncomputable def Kh:aM:=⟨2,[],[true,true],[],λk=>(ag [aG (bC (au .Eq (J 1) (wS lV)) (aw [482] rQ (J 0)) (aw [482] yN (J 0)))])⟩
theorem Z5:FK It Kh:=fK aW
noncomputable def Ki:aM:=⟨3,[],[false,false,true],[(1,some 1),(0,some 0)],λk=>(ag [aG (lL (c0 .In (aA 1) (aw [482] pE (aA 0))) (c0 .NotEq (bP false (.one 1) false [(2,1),(3,0)] (cu (J 2)) (au .In (aA 2) (a9 k [(482,474)] Dg (aA 3) (U [J 1]))) (J 1)) (aY aI)))])⟩
theorem Z6:FK Iu Ki:=fK aW
noncomputable def Kj:aM:=⟨2,[],[true,true],[],λk=>(ag [bk [601] ip (J 0) (hV [di] (U [wS kz])),bk [601,626] nF (J 0) (hV [di] (U [bp true])),bk [601] nG (J 0) (hV [di] (U [az k 482 aI])),bk [216,601] pA (J 0) er,bk [601,852] rR (J 0) er,aC (aq 2) (eg (U [ai (U [wS di,aQ gd (U [J 1])])])),n7 (au .NotEq (J 2) (aY aI)) (ag [aC (cz 2 (aV (aq 3) (aV (aq 4) bL))) (bT cZ tP (J 2) aI),dq (aq 5) (J 4) (ag [aB (au .Eq (af (J 5) (wI 0)) (wS kz)) (ag [bq (bT cZ dY (J 2) (U [ai (U [az k 418 (U [J 3,af (J 5) (wI 2)]),aQ gd (U [af (J 5) (wI 3)])])]))]) aF,bq (a9 k [(601,507)] s99 (J 0) (U [J 3,J 5]))])])])⟩
theorem Z7:FK Iv Kj:=fK (uq ["left"])
noncomputable def Kk:aM:=⟨3,[],[true,true,true],[],λk=>(ag [aC (ff 2 (aV (aq 4) (aV (aq 3) bL))) (ai (U [af (J 2) (wI 0),af (J 2) (wI 1)])),aB (au .Eq (J 3) (wS Mm)) (ag [bq jG]) (ag [aB (au .Eq (J 3) (wS kz)) (ag [bq (a9 k [(601,514)] BU (J 0) (U [J 1,af (J 2) (wI 2),J 3,ai (U [wS lV]),af (J 2) (wI 4),J 4])),bX (az k 482 aI) (aw [601] nG (J 0)) (az k 418 (U [J 1,af (J 2) (wI 2)]))]) (ag [aB (au .Eq (J 3) (wS jJ)) (ag [aC (aq 5) (bC (au .Eq (af (J 2) (wI 4)) (wS pC)) (ai (U [wS lV])) (ai (U [wS lV,wS kh]))),bq (a9 k [(601,519)] BV (J 0) (U [J 1,J 2,J 5,af (J 2) (wI 6)]))]) (ag [aB (au .Eq (J 3) (wS lW)) (ag [bq (a9 k [(601,519)] BV (J 0) (U [J 1,J 2,ai (U [wS lV]),af (J 2) (wI 5)])),bq (a9 k [(601,526)] acy (J 0) (U [az k 418 (U [J 1,af (J 2) (wI 2)]),J 2]))]) (ag [aB (au .Eq (J 3) (wS gA)) (ag [bq (a9 k [(601,519)] BV (J 0) (U [J 1,J 2,ai (U [wS lV]),af (J 2) (wI 5)]))]) (ag [aB (au .In (J 3) (ai (U [wS gR,wS ue]))) (ag [bq (a9 k [(601,514)] BU (J 0) (U [J 1,af (J 2) (wI 2),J 3,ai (U [wS kh]),bC (au .Eq (J 3) (wS gR)) (af (J 2) (wI 8)) (af (J 2) (wI 5)),J 4])),bX (J 2) (aw [601,852] rR (J 0)) (az k 418 (U [J 1,af (J 2) (wI 2)]))]) aF])])])])])])⟩
theorem Z8:FK Iw Kk:=fK aW
noncomputable def Kl:aM:=⟨7,[],[true,true,true,true,true,true,true],[],λk=>(ag [aC (ff 2 (aV (aq 8) (aV (aq 7) bL))) (ai (U [af (aw [601] nG (J 0)) (J 1),az k 418 (U [J 1,J 2])])),aB (bI (cF (a9 k [(482,479)] acz (J 7) (U [J 2,J 4]))) (bI (au .In (J 8) (aw [601] ip (J 0))) dP)) (ag [cw 52 (U [bb false (bb false (wS acA) (J 2)) (wS oZ),J 6])]) aF,dq (aq 9) (J 4) (ag [bX (J 8) (a9 k [(482,474)] Dg (J 7) (U [J 9])) (J 2)]),bX (J 3) (aw [601] ip (J 0)) (J 8),bX (J 5) (aw [601,626] nF (J 0)) (J 8)])⟩
theorem Z9:FK Iy Kl:=fK aW
noncomputable def Km:aM:=⟨5,[],[true,true,true,true,true],[],λk=>(ag [bq (a9 k [(601,514)] BU (J 0) (U [J 1,af (J 2) (wI 2),af (J 2) (wI 0),J 3,J 4,af (J 2) (wI 1)])),aC (aq 5) (az k 418 (U [J 1,af (J 2) (wI 2)])),aC (cz 2 (aV (aq 6) (aV (aq 7) bL))) (af (J 2) (wI 3)),bX (ai (U [aQ bJ (U [J 6]),aQ bJ (U [bP false (.one 1) true [] (cu (J 7)) bo (af (J 1) (wI 0))])])) (aw [216,601] pA (J 0)) (J 5),bX (J 2) (aw [601,852] rR (J 0)) (J 5)])⟩
theorem aaa:FK Iz Km:=fK aW
noncomputable def Ko:aM:=⟨3,[],[true,true,true],[],λk=>(ag [dq (aq 3) (af (J 2) (wI 4)) (ag [aB (au .In (az k 418 (U [J 1,af (J 3) (wI 0)])) (aw [601] ip (J 0))) (ag [cw 52 (U [bb false (bb false (wS acB) (af (J 3) (wI 0))) (wS oZ),af (J 2) (wI 1)])]) aF,bX (wS xN) (aw [601] ip (J 0)) (az k 418 (U [J 1,af (J 3) (wI 0)]))])])⟩
theorem aab:FK IA Ko:=fK aW
noncomputable def Kq:aM:=⟨4,[],[true,true,true,true],[],λk=>(ag [aG (lL (J 3) (az k 432 (U [J 1,J 2])))])⟩
theorem aac:FK IB Kq:=fK aW
noncomputable def Kr:aM:=⟨5,[.int 0],[true,true,true,true,true],[],λk=>(ag [aG (a9 k [(601,555)] acC (J 0) (U [J 1,aQ bJ (U [J 2]),J 3,J 4,aY aI]))])⟩
theorem aad:FK IC Kr:=fK aW
noncomputable def Ks:aM:=⟨6,[],[true,true,true,true,true,true],[],λk=>(ag [aC (cz 2 (aV (aq 6) (aV (aq 7) bL))) (a9 k [(601,562)] acD (J 0) (U [J 1,J 2,J 4])),n7 (au .Lt (J 7) (aQ dB (U [J 2]))) (ag [aC (aq 8) (bC (au .Eq (bb false (J 7) (wI 1)) (aQ dB (U [J 2]))) (J 3) (wS lV)),aC (aq 9) (a9 k [(601,569)] acE (J 0) (U [J 1,J 6,af (J 2) (J 7),J 8,J 4,J 5])),aB (au .Is (J 9) wZ) (ag [cw 52 (U [bb false (wS Mn) (bT th wt (wS uX) (U [J 2])),J 4])]) aF,aC (ff 2 (aV (aq 7) (aV (aq 6) bL))) (ai (U [J 9,bb true (J 7) (wI 1)]))]),aB (bI (au .Is (J 6) wZ) (bI (c6 (au .Eq (J 3) (wS kh)) (c6 (au .Eq (af (aw [601] ip (J 0)) (J 6)) (wS kz)) bo)) dP)) (ag [cw 52 (U [bb false (wS Mn) (bT th wt (wS uX) (U [J 2])),J 4])]) aF,aG (J 6)])⟩
theorem aae:FK ID Ks:=fK aW
noncomputable def Kt:aM:=⟨4,[],[true,true,true,true],[],λk=>(ag [aB (au .Eq (J 2) (ai aI)) (ag [cw 52 (U [wS acF,J 3])]) aF,aB (au .Eq (af (J 2) (wI 0)) (wS o4)) (ag [aG (ai (U [wS di,wI 1]))]) aF,aB (au .NotIn (af (J 2) (wI 0)) (cC (.tup [.str o4,.str eR,.str BW]))) (ag [aG (ai (U [wZ,wI 0]))]) aF,aC (ff 2 (aV (aq 5) (aV (aq 4) bL))) (ai (U [J 1,bC (au .Eq (af (J 2) (wI 0)) (wS eR)) (wI 1) (wI 0)])),n7 (c6 (au .Lt (J 5) (aQ dB (U [J 2]))) (c6 (au .Eq (af (J 2) (J 5)) (wS BW)) bo)) (ag [aB (au .Eq (J 4) (wS di)) (ag [cw 52 (U [wS acG,J 3])]) aF,aC (ff 2 (aV (aq 5) (aV (aq 4) bL))) (ai (U [jG,bb true (J 5) (wI 1)]))]),aG (ai (U [J 4,J 5]))])⟩
theorem aaf:FK IE Kt:=fK aW
noncomputable def Ku:aM:=⟨7,[],[true,true,true,true,true,true,true],[],λk=>(ag [aB (au .IsNot (J 2) wZ) (ag [aG (a9 k [(346,336),(601,576)] pD (J 0) (U [J 1,J 2,J 3,J 4,J 5,J 6]))]) aF,aC (aq 7) (a9 k [(346,336),(601,576)] pD (J 0) (U [J 1,J 1,J 3,J 4,J 5,J 6])),aB (c6 (au .Is (J 7) wZ) (c6 (au .In (J 3) (cC (.tup [.str Mo,.str Mp,.str Mq,.str yM,.str Mr,.str Ms,.str Mt,.str Mu,.str Mv,.str Mw,.str Mx,.str My,.str Mz]))) bo)) (ag [aC (aq 7) (a9 k [(346,336),(601,576)] pD (J 0) (U [J 1,wS di,J 3,J 4,J 5,J 6]))]) aF,aG (J 7)])⟩
theorem aag:FK IF Ku:=fK aW
noncomputable def Kw:aM:=⟨7,[],[true,true,true,true,true,true,true],[],λk=>(ag [aB (au .Eq (af (aw [601] ip (J 0)) (J 2)) (wS lW)) (ag [aC (aq 7) (az k 418 (U [J 2,J 3])),aG (bC (au .Eq (bT n4 oN (aw [601] ip (J 0)) (U [J 7])) (wS xN)) (J 7) wZ)]) aF,aB (au .NotEq (af (aw [601] ip (J 0)) (J 2)) (wS kz)) (ag [aG wZ]) aF,aC (aq 8) (af (aw [601] nG (J 0)) (J 2)),aC (aq 7) (bT n4 oN (a9 k [(482,474)] Dg (J 8) (U [J 4])) (U [J 3])),aB (au .IsNot (J 7) wZ) (ag [aB (eZ (cF (a9 k [(601,540)] BX (J 0) (U [J 1,J 2,af (aw [601,626] nF (J 0)) (J 7)])))) (ag [cw 64 (U [bb false (J 7) (wS MA),J 5])]) aF,aG (J 7)]) aF,aC (aq 9) (bT n4 oN (aw [482] pE (J 8)) (U [J 3])),aB (au .Is (J 9) wZ) (ag [aG wZ]) aF,aB (eZ (cF (a9 k [(601,540)] BX (J 0) (U [J 1,J 2,aw [449] acH (J 9)])))) (ag [cw 64 (U [bb false (bb false (wS acI) (J 3)) (wS MA),J 5])]) aF,aG jG])⟩
theorem aah:FK IG Kw:=fK aW
noncomputable def Kx:aM:=⟨1,[],[true],[],λk=>(ag [dq (aq 1) (aQ nR (U [aw [601] nG (J 0)])) (ag [aC (aq 2) (af (aw [601] nG (J 0)) (J 1)),dq (aq 3) (aQ nR (U [aw [482] pE (J 2)])) (ag [aC (aq 4) (af (aw [482] pE (J 2)) (J 3)),g0])])])⟩
theorem aai:FK IH Kx:=fK aW
noncomputable def Ky:aM:=⟨8,[.str di,.tup []],[true,true,true,true,true,true,true,true],[],λk=>(ag [bk [626,647,668] pB (J 0) (J 1),bk [216,626,752] jI (J 0) (J 6),bk [626,647,690,752] eA (J 0) (J 2),bk [626,647,668,690,752] f7 (J 0) (J 3),bk [626,719] nE (J 0) (J 4),bk [601,626] nF (J 0) (J 7),bk [626] BY (J 0) (J 5)])⟩
theorem aaj:FK II Ky:=fK aW
noncomputable def Kz:aM:=⟨9,[],[true,true,true,true,true,true,true,true,true],[],λk=>(ag [bk [626,647,668] pB (J 0) (J 1),bk [626,647,690,752] eA (J 0) (J 2),bk [626,647,668,690,752] f7 (J 0) (J 3),bk [647] ky (J 0) (J 4),bk [647] fx (J 0) (J 5),bk [647] dw (J 0) (J 6),bk [647] yI (J 0) (J 7),bk [647] BZ (J 0) (J 8)])⟩
theorem aak:FK IJ Kz:=fK aW
noncomputable def KA:aM:=⟨5,[],[true,true,true,true,true],[],λk=>(ag [bk [626,647,668] pB (J 0) (J 1),bk [626,647,668,690,752] f7 (J 0) (J 2),bk [668,690] g7 (J 0) (J 3),bk [668] Df (J 0) (J 4)])⟩
theorem aal:FK IK KA:=fK aW
noncomputable def KC:aM:=⟨9,[.int 0],[true,true,true,true,true,true,true,true,true],[],λk=>(ag [bk [690] MC (J 0) (J 1),bk [626,647,690,752] eA (J 0) (J 2),bk [626,647,668,690,752] f7 (J 0) (J 3),bk [690] gA (J 0) (J 4),bk [690] N5 (J 0) (J 5),bk [216,690,752] gy (J 0) (J 6),bk [668,690] g7 (J 0) (J 7),bk [449,690] yK (J 0) (J 8)])⟩
theorem aam:FK IL KC:=fK aW
noncomputable def KD:aM:=⟨2,[.none],[true,true],[],λk=>(ag [bk [216,719,852] iW (J 0) (J 1),bk [719] jK (J 0) er,bk [626,719] nE (J 0) er,bk [719] uV (J 0) er,bk [719] rP (J 0) er,bk [719] uW (J 0) (eg aI),bk [719] B0 (J 0) er,bk [719] rn (J 0) er])⟩
theorem aan:FK IM KD:=fK aW
noncomputable def KE:aM:=⟨5,[],[true,true,true,true,true],[],λk=>(ag [aC (aq 5) (af (aw [719] jK (J 0)) (J 1)),aG (a9 k [(601,540)] BX (aw [216,719,852] iW (J 0)) (U [J 4,aw [216,626,752] jI (J 5),af (af (aw [601,626] nF (J 5)) (J 2)) (J 3)]))])⟩
theorem aao:FK IP KE:=fK aW
noncomputable def KG:aM:=⟨5,[],[true,true,true,true,true],[],λk=>(ag [bk [216,626,752] jI (J 0) (J 1),bk [626,647,690,752] eA (J 0) (aQ bJ (U [J 2])),bk [626,647,668,690,752] f7 (J 0) (aQ sM (U [J 3])),bk [216,690,752] gy (J 0) (J 4)])⟩
theorem aap:FK IQ KG:=fK aW
noncomputable def KH:aM:=⟨1,[],[true],[],λk=>(ag [aG (bP false (.one 1) true [] (cu (aw [626,647,668,690,752] f7 (J 0))) bo (af (J 1) (wI 0)))])⟩
theorem aaq:FK IS KH:=fK aW
noncomputable def KI:aM:=⟨4,[],[true,true,true,true],[],λk=>(ag [dq (aq 4) (J 2) (ag [aB (bI (au .In (J 4) (aw [626,647,690,752] eA (J 0))) (bI (au .Gt (bT AP Aq (J 2) (U [J 4])) (wI 1)) (bI (au .Eq (J 4) (wS gw)) dP))) (ag [cw 52 (U [bb false (bb false (wS acJ) (J 4)) (wS oZ),J 1])]) aF]),dq (cz 2 (aV (aq 4) (aV (aq 5) bL))) (J 3) (ag [aB (au .In (J 4) (a9 (bc k) [(752,742)] MD (J 0) aI)) (ag [cw 52 (U [bb false (bb false (wS De) (J 4)) (wS oZ),J 1])]) aF]),aG (az k 752 (U [aw [216,626,752] jI (J 0),bb false (aw [626,647,690,752] eA (J 0)) (aQ bJ (U [J 2])),bb false (aw [626,647,668,690,752] f7 (J 0)) (aQ gd (U [J 3])),aw [216,690,752] gy (J 0)]))])⟩
theorem aar:FK IT KI:=fK aW
noncomputable def KJ:aM:=⟨2,[],[true,true],[],λk=>(ag [bk [601,852] rR (J 0) (J 1),bk [216,719,852] iW (J 0) (az k 601 (U [J 1])),bk [346,852] g6 (J 0) (az k 719 (U [aw [216,719,852] iW (J 0)])),bk [852] B1 (J 0) (eg aI)])⟩
theorem aas:FK IU KJ:=fK aW
noncomputable def KL:aM:=⟨1,[],[true],[(3,none),(1,none)],λk=>(ag [k9 true (.one 1) true [] (ri (aw [601,852] rR (J 0))) bo (ai (U [wS di,J 1])) (aq 2),n7 (au .NotEq (J 2) (aY aI)) (ag [aC (cz 2 (aV (fc 3) (aV (fc 1) bL))) (bT cZ tP (J 2) aI),aB (au .Eq (af (aA 1) (wI 0)) (wS kz)) (ag [bq (bT cZ nQ (J 2) (U [bP false (.one 1) true [(3,1),(4,3)] (ri (af (aA 1) (wI 3))) bo (ai (U [az k 418 (U [aA 4,af (aA 3) (wI 2)]),J 1]))]))]) (ag [aB (au .In (af (aA 1) (wI 0)) (ai (U [wS jJ,wS lW]))) (ag [bq (a9 k [(852,794)] acK (J 0) (U [aA 3,aA 1]))]) (ag [aB (au .Eq (af (aA 1) (wI 0)) (wS gA)) (ag [bq (a9 k [(852,823)] acL (J 0) (U [aA 3,aA 1]))]) (ag [aB (au .NotEq (af (aA 1) (wI 0)) (wS Mm)) (ag [bq (bT cZ dY (aw [852] B1 (J 0)) (U [ai (U [aA 3,aA 1])]))]) aF])])])]),dq (cz 2 (aV (fc 3) (aV (fc 1) bL))) (aw [852] B1 (J 0)) (ag [aB (au .Eq (af (aA 1) (wI 0)) (wS gR)) (ag [bq (a9 k [(852,804)] B2 (J 0) (U [az k 418 (U [aA 3,af (aA 1) (wI 2)]),aA 1,az k 752 (U [aA 3,ai aI,aY aI,wZ]),bp true]))]) (ag [aB (au .Eq (af (aA 1) (wI 0)) (wS ue)) (ag [bq (a9 k [(852,818)] acM (J 0) (U [aA 3,aA 1]))]) (ag [bq (a9 k [(852,830)] acN (J 0) (U [aA 3,aA 1]))])])]),bq (a9 k [(601,598)] acO (aw [216,719,852] iW (J 0)) aI),aG (aw [346,852] g6 (J 0))])⟩
theorem aat:FK IV KL:=fK (uq ["left"])
noncomputable def KN:aM:=⟨3,[],[true,true,true],[],λk=>(ag [aC (aq 3) (az (bc k) 228 (U [aw [216,719,852] iW (J 0),aw [216,626,752] jI (J 1),a9 (bc k) [(752,742)] MD (J 1) aI,aw [216,690,752] gy (J 1),J 2])),aB (eZ (cF (az (bc k) 233 (U [J 3])))) (ag [cw 76 (U [wS acP,af (J 2) (wI 1)])]) aF,aG (J 3)])⟩
theorem aau:FK IW KN:=fK aW
noncomputable def KO:aM:=⟨4,[],[true,true,true,true],[],λk=>(ag [aC (aq 4) (az (bc k) 243 (U [aw [216,719,852] iW (J 0),aw [216,626,752] jI (J 1),J 2,J 3])),aG (ai (U [a9 k [(752,749)] acQ (J 1) (U [J 3,af (J 2) (wI 0),J 4]),J 4]))])⟩
theorem aav:FK IX KO:=fK aW
noncomputable def KP:aM:=⟨3,[],[true,true,false],[(2,some 2)],λk=>(ag [aC (ff 2 (aV (aq 4) (aV (aq 3) bL))) (ai (U [af (aA 2) (wI 1),az k 418 (U [J 1,af (aA 2) (wI 2)])])),aC (cz 2 (aV (aq 5) (aV (aq 6) bL))) (a9 k [(852,789)] xO (J 0) (U [az k 752 (U [J 1,ai aI,aY aI,wZ]),af (aA 2) (wI 3),J 3])),bk [216,690,752] gy (J 5) (ai (U [wS s4,J 4,aQ bJ (U [af (af (aA 2) (wI 3)) (wI 0)]),aQ bJ (U [bP false (.one 1) true [] (cu (J 6)) bo (ai (U [wS fu,af (J 1) (wI 0)]))])])),aC (aq 7) (bC (au .Eq (af (aA 2) (wI 0)) (wS jJ)) (aY (U [ai (U [wS di,af (aA 2) (wI 4),af (aA 2) (wI 5)])])) (aQ gd (U [af (aA 2) (wI 4)]))),aC (ff 2 (aV (aq 9) (aV (aq 8) bL))) (ai (U [eg aI,eg aI])),n8 (cz 2 (aV (aq 10) (aV (cz 3 (aV (aq 11) (aV (aq 12) (aV (aq 13) bL)))) bL))) (J 7) (ag [bq (bT cZ dY (J 8) (U [ai (U [bC (au .NotEq (J 11) (wS di)) (J 11) (af (aA 2) (wI 2)),J 12,a9 k [(852,799)] dH (J 0) (U [J 5,J 13,J 3])])])),bq (bT cZ dY (J 9) (U [bP false (.one 1) true [(2,2)] (cu (J 13)) bo (lL (c0 .Eq (af (aA 2) (wI 0)) (wS lW)) (af (J 1) (wI 2)))])),bX (ai (U [J 4,J 10])) (aw [626,719] nE (aw [346,852] g6 (J 0))) (bC (au .Eq (af (aA 2) (wI 0)) (wS jJ)) (J 4) (az k 418 (U [J 4,J 11])))]),aC (aq 14) (aQ bJ (U [bP false (.one 1) true [] (cu (J 6)) bo (af (J 1) (wI 0))])),bX (az k 626 (U [J 4,aQ bJ (U [af (af (aA 2) (wI 3)) (wI 0)]),J 14,J 8,c0 .Eq (af (aA 2) (wI 0)) (wS lW),J 1,J 9])) (aw [719] jK (aw [346,852] g6 (J 0))) (J 4)])⟩
theorem aaw:FK IY KP:=fK aW
noncomputable def KQ:aM:=⟨4,[],[true,true,true,true],[],λk=>(ag [aC (aq 4) (eg aI),dq (cz 3 (aV (aq 5) (aV (aq 6) (aV (aq 7) bL)))) (J 2) (ag [aB (au .In (J 5) (bP false (.one 1) true [] (cu (J 4)) bo (af (J 1) (wI 0)))) (ag [cw 52 (U [bb false (bb false (wS acR) (J 5)) (wS oZ),J 3])]) aF,aC (aq 8) (a9 (bc k) [(852,782)] ro (J 0) (U [J 1,J 6])),bq (az (bc k) 163 (U [J 8,aw [626,647,690,752] eA (J 1),af (J 6) (wI 1)])),bq (bT cZ dY (J 4) (U [ai (U [J 5,J 8])]))]),aG (J 4)])⟩
theorem aax:FK IZ KQ:=fK aW
noncomputable def KR:aM:=⟨5,[],[false,true,true,true,true],[(7,none),(0,some 0)],λk=>(ag [aC (ff 2 (aV (aq 6) (aV (aq 5) bL))) (ai (U [af (J 2) (wI 1),af (J 2) (wI 4)])),aB (c6 (au .IsNot (J 6) wZ) (c6 (au .Is (aw [216,690,752] gy (J 3)) wZ) bo)) (ag [cw 52 (U [wS acS,J 5])]) aF,aC (cz 2 (aV (fc 7) (aV (aq 8) bL))) (a9 k [(852,789)] xO (aA 0) (U [J 3,af (J 2) (wI 3),J 5])),aC (aq 9) (bC (au .Is (J 6) wZ) (aY aI) (aY (U [a9 k [(852,811)] acT (aA 0) (U [aw [216,690,752] gy (J 3),J 6])]))),aC (aq 9) (bb false (J 9) (bP false (.two 1 2) true [(3,7),(4,0)] (cu (af (J 2) (wI 5))) bo (a9 (bc k) [(852,782)] ro (aA 4) (U [aA 3,J 2])))),aC (aq 10) (bC (au .Is (af (J 2) (wI 6)) wZ) (cC (.tup [.str s3,.tup []])) (a9 (bc k) [(852,782)] ro (aA 0) (U [aA 7,af (J 2) (wI 6)]))),aC (cz 3 (aV (aq 9) (aV (aq 10) (aV (aq 11) bL)))) (az (bc k) 149 (U [J 9,J 10,J 6,J 5])),wJ 12 (bb false (J 9) (ai (U [J 10]))) (az (bc k) 163 (U [J 12,bb false (aw [626,647,690,752] eA (aA 7)) (J 11),J 5])),aC (aq 13) (az k 647 (U [J 1,bb false (aw [626,647,690,752] eA (aA 7)) (J 11),aw [626,647,668,690,752] f7 (aA 7),J 8,J 9,J 10,J 6,c0 .IsNot (af (J 2) (wI 7)) wZ])),aB (cF (J 4)) (ag [bX (J 13) (aw [719] uV (aw [346,852] g6 (aA 0))) (J 1),aB (au .IsNot (af (J 2) (wI 7)) wZ) (ag [bX (ai (U [J 2,aw [216,626,752] jI (J 3),aw [216,690,752] gy (J 3)])) (aw [719] rn (aw [346,852] g6 (aA 0))) (J 1)]) aF]) aF,aG (J 13)])⟩
theorem aay:FK I0 KR:=fK aW
noncomputable def KS:aM:=⟨3,[],[true,true,true],[],λk=>(ag [aG (bC (au .Eq (J 2) (wS kh)) (J 1) (ai (U [wS s0,wZ,c0 .Eq (J 2) (wS s8),J 1])))])⟩
theorem aaz:FK I1 KS:=fK aW
noncomputable def KU:aM:=⟨3,[],[true,true,true],[],λk=>(ag [aC (aq 3) (a9 (bc k) [(852,782)] ro (J 0) (U [az k 752 (U [J 1,ai aI,aY aI,wZ]),af (J 2) (wI 3)])),aC (aq 3) (az k 115 (U [J 3,mH 0 813 xP 1 []])),bq (az (bc k) 163 (U [J 3,ai aI,af (J 2) (wI 1)])),bX (ai (U [J 3,af (J 2) (wI 4),J 1])) (aw [719] B0 (aw [346,852] g6 (J 0))) (az k 418 (U [J 1,af (J 2) (wI 2)]))])⟩
theorem aaA:FK qU KU:=yQ aW 1 (λgx m=>adg gx m)
noncomputable def KV:aM:=⟨3,[],[true,true,true],[],λk=>(ag [aC (ff 2 (aV (aq 4) (aV (aq 3) bL))) (ai (U [az k 418 (U [J 1,af (J 2) (wI 2)]),af (J 2) (wI 1)])),aB (au .NotEq (af (af (J 2) (wI 3)) (wI 0)) (ai aI)) (ag [cw 88 (U [wS acU,J 4])]) aF,aC (aq 5) (az k 752 (U [J 1,ai aI,aY (U [ai (U [wS kx,ai (U [J 3])])]),ai (U [wS fu,wS kx])])),aC (cz 2 (aV (aq 6) (aV (aq 7) bL))) (a9 k [(852,789)] xO (J 0) (U [J 5,af (J 2) (wI 3),J 4])),aC (ff 2 (aV (aq 9) (aV (aq 8) bL))) (ai (U [er,er])),dq (aq 10) (af (J 2) (wI 4)) (ag [aC (aq 11) (af (J 10) (wI 2)),aB (au .In (J 11) (J 8)) (ag [cw 52 (U [bb false (bb false (wS yL) (J 11)) (wS oZ),af (J 10) (wI 1)])]) aF,bX (a9 k [(852,804)] B2 (J 0) (U [az k 418 (U [J 3,J 11]),J 10,J 6,bp true])) (J 8) (J 11),aB (au .IsNot (af (J 10) (wI 7)) wZ) (ag [bX (az k 418 (U [J 3,J 11])) (J 9) (J 11)]) aF]),bX (az k 668 (U [J 3,aQ bJ (U [bP false (.one 1) true [] (cu (J 7)) bo (af (J 1) (wI 0))]),J 8,J 9])) (aw [719] rP (aw [346,852] g6 (J 0))) (J 3)])⟩
theorem aaB:FK I2 KV:=fK aW
noncomputable def KW:aM:=⟨3,[],[true,true,true],[],λk=>(ag [aC (ff 2 (aV (aq 4) (aV (aq 3) bL))) (ai (U [af (J 2) (wI 1),aQ dB (U [aw [719] uW (aw [346,852] g6 (J 0))])])),aC (cz 2 (aV (aq 5) (aV (aq 6) bL))) (a9 k [(852,789)] xO (J 0) (U [az k 752 (U [J 1,ai aI,aY aI,wZ]),af (J 2) (wI 2),J 3])),aC (aq 7) (a9 (bc k) [(852,782)] ro (J 0) (U [J 5,af (J 2) (wI 4)])),bk [216,690,752] gy (J 5) (a9 k [(852,844)] acV (J 0) (U [J 7,J 5,J 3])),aC (cz 2 (aV (aq 8) (aV (aq 9) bL))) (a9 (bc k) [(852,849)] acW (J 0) (U [J 5,J 2])),bq (a9 (bc k) [(852,837)] acX (J 0) (U [J 6,bb false (ai (U [J 7])) (J 9),J 3])),aC (aq 10) er,dq (aq 11) (af (J 2) (wI 5)) (ag [aC (aq 12) (af (J 11) (wI 2)),aB (au .In (J 12) (J 10)) (ag [cw 52 (U [bb false (bb false (wS yL) (J 12)) (wS oZ),af (J 11) (wI 1)])]) aF,bX (bb false (bb false (bb false (wS acY) (aQ mW (U [J 4]))) (wS uX)) (J 12)) (J 10) (J 12),bq (a9 k [(852,804)] B2 (J 0) (U [af (J 10) (J 12),J 11,J 5,bp true]))]),bq (bT cZ dY (aw [719] uW (aw [346,852] g6 (J 0))) (U [az k 690 (U [J 4,aw [626,647,690,752] eA (J 5),J 6,J 8,J 9,aw [216,690,752] gy (J 5),J 10,J 3])]))])⟩
theorem aaC:FK I3 KW:=fK aW
noncomputable def KY:aM:=⟨4,[],[true,true,true,true],[],λk=>(ag [aC (aq 4) (eg aI),dq (aq 5) (J 2) (ag [bq (bT cZ nQ (J 4) (U [az (bc k) 863 (U [J 5])]))]),dq (cz 2 (aV (aq 6) (aV (aq 7) bL))) (J 1) (ag [aB (au .NotIn (J 6) (J 4)) (ag [cw 100 (U [bb false (bb false (wS De) (J 6)) (wS acZ),J 3])]) aF])])⟩
theorem aaD:FK I4 KY:=fK aW
noncomputable def KZ:aM:=⟨4,[],[true,true,true,true],[],λk=>(ag [bq (az (bc k) 163 (U [J 1,aw [626,647,690,752] eA (J 2),J 3])),aG (J 1)])⟩
theorem aaE:FK I5 KZ:=fK aW
noncomputable def K0:aM:=⟨3,[],[false,false,true],[(1,some 1),(0,some 0)],λk=>(ag [aC (aq 3) (af (J 2) (wI 3)),aB (au .Is (J 3) wZ) (ag [aG (ai (U [wZ,ai aI]))]) aF,aC (aq 4) (az (bc k) 238 (U [aw [216,719,852] iW (aA 0),aw [216,626,752] jI (aA 1),J 3,af (J 2) (wI 1)])),aC (aq 5) (aQ bJ (U [bP false (.one 1) true [(2,1),(3,0)] (cu (af (af (J 3) (iM (wI 1))) (wI 2))) bo (a9 (bc k) [(852,782)] ro (aA 3) (U [aA 2,J 1]))])),aB (au .NotEq (aQ dB (U [J 5])) (aQ dB (U [aw [626,647,668,690,752] f7 (af (aw [719] rP (aw [346,852] g6 (aA 0))) (J 4))]))) (ag [cw 88 (U [bb false (J 4) (wS ac0),af (J 2) (wI 1)])]) aF,dq (aq 6) (J 5) (ag [bq (az (bc k) 163 (U [J 6,aw [626,647,690,752] eA (aA 1),af (J 2) (wI 1)]))]),aG (ai (U [J 4,J 5]))])⟩
theorem aaF:FK I6 K0:=fK aW
noncomputable def K1:aM:=⟨1,[],[true],[],λk=>(ag [aC (aq 1) (af (J 0) (wI 0)),aB (au .Eq (J 1) (wS fu)) (ag [aG (aY (U [af (J 0) (wI 1)]))]) aF,aB (au .Eq (J 1) (wS s0)) (ag [aG (az (bc k) 863 (U [af (J 0) (wI 3)]))]) aF,aB (au .In (J 1) (ai (U [wS s1,wS s2]))) (ag [aG (az (bc k) 863 (U [af (J 0) (wI 1)]))]) aF,aC (aq 2) (eg aI),dq (aq 3) (bC (au .Eq (J 1) (wS s3)) (af (J 0) (wI 1)) (bC (au .Eq (J 1) (wS s4)) (af (J 0) (wI 3)) (ai aI))) (ag [bq (bT cZ nQ (J 2) (U [az (bc k) 863 (U [J 3])]))]),aG (J 2)])⟩
theorem aaG:FK I7 K1:=fK aW
noncomputable def K2:aM:=⟨1,[],[true],[],λk=>(ag [aC (aq 1) (a9 k [(852,775)] ac1 (az k 852 (U [aQ bJ (U [J 0])])) aI),bq (az (bc k) 409 (U [J 1])),aG (J 1)])⟩
theorem aaH:FK I8 K2:=fK aW
noncomputable def K3:aM:=⟨2,[],[true,true],[],λk=>(ag [aG (af (J 1) (az k 884 (U [J 0,aQ dB (U [J 1])])))])⟩
theorem aaI:FK I9 K3:=fK aW
noncomputable def K4:aM:=⟨3,[.tup [],.tup []],[true,true,true],[],λk=>(ag [aG (ai (U [wS pB,wI 0,bb false (aQ bJ (U [bP false (.one 1) true [] (cu (qD (J 0) (iM (wI 1)))) bo (ai (U [J 1,ai aI,ai aI]))])) (ai (U [ai (U [af (J 0) (iM (wI 1)),J 1,J 2])]))]))])⟩
theorem aaJ:FK Ja K4:=fK aW
noncomputable def K5:aM:=⟨3,[],[true,true,true],[],λk=>(ag [aC (aq 3) (bC (au .Gt (J 1) (wI 0)) (az k 884 (U [J 0,wI 7])) (az k 884 (U [J 0,wI 3]))),aB (au .Eq (J 3) (wI 0)) (ag [aG (aY (U [az k 904 (U [aY (U [wS dX])]),ai (U [wS il,wS dX])]))]) aF,aB (au .Eq (J 3) (wI 1)) (ag [aG (bC (au .Is (af (J 2) (wI 1)) wZ) (aY (U [az k 904 (U [aY (U [wS lU])]),ai (U [wS lU])])) (aY (U [az k 904 (U [aY (U [af (J 2) (wI 1)])]),ai (U [wS fu,af (J 2) (wI 1)])])))]) aF,aB (au .Eq (J 3) (wI 2)) (ag [aG (aY (U [az k 904 (U [aY (U [wS o4,wS fJ,wS o5])]),ai (U [wS s4,wS lB,ai aI,ai aI])]))]) aF,aC (aq 4) (az k 911 (U [J 0,wW (J 1) (wI 1),J 2])),aB (au .Eq (J 3) (wI 3)) (ag [aC (aq 5) (az k 891 (U [J 0,bb false (aQ gd (U [af (J 2) (wI 0)])) (aY (U [wS gw]))])),aG (aY (U [ai (U [wS s0,wI 0,J 5,bp true,af (J 4) (wI 0)]),ai (U [wS s0,J 5,bp true,af (J 4) (wI 1)])]))]) aF,aB (au .Eq (J 3) (wI 4)) (ag [aG (aY (U [ai (U [wS s3,wI 0,ai (U [af (J 4) (wI 0),af (J 4) (wI 0)])]),ai (U [wS s3,ai (U [af (J 4) (wI 1),af (J 4) (wI 1)])])]))]) aF,aB (au .Eq (J 3) (wI 5)) (ag [aG (aY (U [ai (U [wS s2,wI 0,af (J 4) (wI 0),wI 3]),ai (U [wS s2,af (J 4) (wI 1),wI 3])]))]) aF,aG (aY (U [az k 904 (U [aY (U [wS yG]),ai aI,ai (U [af (J 4) (wI 0)])]),ai (U [wS s1,af (J 4) (wI 1)])]))])⟩
theorem aaK:FK Jb K5:=fK aW
noncomputable def K6:aM:=⟨1,[],[false],[(2,none),(0,some 0)],λk=>(ag [aC (aq 1) (hV [gS,cM] (U [az k 891 (U [aA 0,aY (U [ai aI,ai (U [wS lC])])]),az k 891 (U [aA 0,aY (U [wZ,wS cM])])])),aC (fc 2) (aY (U [af (J 1) (wS gS),af (J 1) (wS cM)])),bX (bP false (.one 1) true [(3,0),(4,2)] (iO (az k 884 (U [aA 0,wI 3]))) bo (az k 911 (U [aA 3,wI 2,aA 4]))) (J 1) (wS dH),bX (bP false (.one 1) true [(3,0)] (iO (wI 2)) bo (c0 .Eq (az k 884 (U [aA 3,wI 2])) (wI 0))) (J 1) (wS fg),bX (bP false (.one 1) true [(3,0),(4,2)] (iO (az k 884 (U [aA 0,wI 3]))) bo (az k 911 (U [aA 3,wI 2,aA 4]))) (J 1) (wS fx),bX (c0 .Eq (az k 884 (U [aA 0,wI 2])) (wI 0)) (J 1) (wS o6),bX (az k 911 (U [aA 0,wI 1,aA 2])) (J 1) (wS dw),bX (az k 911 (U [aA 0,wI 1,aY (U [ai aI,wZ])])) (J 1) (wS dW),aB (au .Eq (az k 884 (U [aA 0,wI 3])) (wI 0)) (ag [bX (aY (U [ai (U [wS s0,wI 0,wZ,bp true,az k 904 (U [aY (U [wS dX])])]),ai (U [wS s0,wS gw,bp true,ai (U [wS il,wS dX])])])) (J 1) (wS dW)]) aF,bX (az k 891 (U [aA 0,aY (U [wS kh,wS s0,wS s8,wS s0])])) (J 1) (wS eR),bX (c0 .Eq (az k 884 (U [aA 0,wI 2])) (wI 0)) (J 1) (wS hZ),aG (J 1)])⟩
theorem aaL:FK Jc K6:=fK aW
noncomputable def K7:aM:=⟨1,[],[true],[],λk=>(ag [aC (aq 1) (bC (au .Is (af (J 0) (wS cM)) wZ) (ai aI) (ai (U [ai (U [af (J 0) (wS cM),ai aI])]))),aG (ai (U [af (J 0) (wS gS),J 1]))])⟩
theorem aaM:FK Jd K7:=fK aW
noncomputable def K8:aM:=⟨4,[],[true,true,true,true],[],λk=>(ag [k9 true (.one 1) true [] (cu (af (J 1) (wS fx))) bo (ai (U [ai (U [wS B3,wI 0]),af (J 1) (wI 0)])) (aq 4),aB (cF (af (J 1) (wS o6))) (ag [bq (bT cZ dY (J 4) (U [ai (U [ai (U [wS B3,wI 0]),ai (U [wS s0,wI 0,wZ,bp false,az k 904 (U [aY (U [wS dX])])])])]))]) aF,aC (aq 5) (bC (au .IsNot (J 2) wZ) (cC (.tup [.tup [],.tup []])) (az (bc k) 923 (U [J 1]))),aG (ai (U [wS gR,wI 0,J 0,J 5,J 2,aQ bJ (U [J 4]),af (af (J 1) (wS dw)) (wI 0),bC (cF (J 3)) wZ (cC (.tup [.str o7,.int 0,.tup [],.none])),bp true]))])⟩
theorem aaN:FK Je K8:=fK (uq ["params"])
noncomputable def K9:aM:=⟨2,[],[false,true],[(0,some 0)],λk=>(ag [aC (aq 2) (bC (c6 (au .Eq (af (aA 0) (wS gS)) (ai aI)) (c6 (au .Is (af (aA 0) (wS cM)) wZ) bo)) (az k 904 (U [aY (U [wS fh]),ai aI,ai aI])) (az k 904 (U [aY (U [wS fh]),af (aA 0) (wS gS),aQ bJ (U [bC (au .IsNot (af (aA 0) (wS cM)) wZ) (aY (U [az k 904 (U [aY (U [af (aA 0) (wS cM)])])])) (aY aI)])]))),k9 false (.one 1) true [(3,0)] (iO (aQ dB (U [af (aA 0) (wS dH)]))) bo (ai (U [bb false (wS ME) (aQ mW (U [J 1])),af (af (af (aA 3) (wS dH)) (J 1)) (wI 0),af (af (aA 3) (wS fg)) (J 1)])) (aq 3),aB (au .Eq (J 1) (wS xQ)) (ag [aC (aq 3) (aY (U [ai (U [wS iP,az k 904 (U [aY (U [wS dX])]),bp true]),ai (U [wS iP,az k 904 (U [aY (U [wS dX])]),bp true])]))]) aF,aB (au .Eq (J 1) (wS xR)) (ag [aC (aq 3) (aY (U [ai (U [wS iP,az k 904 (U [aY (U [wS MF])]),bp true])]))]) aF,aB (au .Eq (J 1) (wS xS)) (ag [aC (aq 3) (aY (U [ai (U [wS iP,az k 904 (U [aY (U [wS o4,wS fJ,wS o5]),ai aI,ai (U [az k 904 (U [aY (U [wS dX])])])]),bp true])]))]) aF,aB (au .Eq (J 1) (wS xT)) (ag [aC (aq 3) (aY (U [ai (U [wS iP,ai (U [wS s0,wI 0,wS MG,bp false,az k 904 (U [aY (U [wS dX])])]),bp true])]))]) aF,aC (aq 4) (ai (U [wS gA,wI 0,wS ju,cC (.tup [.tup [],.tup []]),ai (U [ai (U [wS gR,wI 0,wS m5,cC (.tup [.tup [],.tup []]),af (aA 0) (wS eR),ai aI,wZ,bC (cF (af (aA 0) (wS hZ))) (cC (.tup [.str o7,.int 0,.tup [],.none])) wZ,bp false])]),bp true])),aC (aq 5) (bC (cF (af (aA 0) (wS hZ))) (aY aI) (aY (U [ai (U [wS gR,wI 0,wS m5,cC (.tup [.tup [],.tup []]),af (aA 0) (wS eR),ai aI,wZ,cC (.tup [.str o7,.int 0,.tup [],.none]),bp false])]))),aB (au .Eq (J 1) (wS xU)) (ag [aC (aq 5) (bb false (J 5) (aY (U [ai (U [wS gR,wI 0,wS MH,cC (.tup [.tup [],.tup []]),wZ,ai aI,wZ,cC (.tup [.str o7,.int 0,.tup [],.none]),bp false])])))]) aF,aC (aq 6) (bC (bI (au .Is (af (aA 0) (wS cM)) wZ) (bI (au .Eq (af (aA 0) (wS gS)) (ai aI)) dP)) (aY (U [az (bc k) 928 (U [wS ky,aA 0,af (aA 0) (wS eR),bp false])])) (aY aI)),aC (aq 7) (az (bc k) 923 (U [aA 0])),aB (au .Eq (J 1) (wS xV)) (ag [aC (aq 7) (ai (U [af (J 7) (wI 0),bb false (af (J 7) (wI 1)) (ai (U [ai (U [wS MI,ai aI])]))]))]) aF,aC (aq 8) (eg (U [ai (U [wS jJ,wI 0,wS fh,az (bc k) 923 (U [aA 0]),wS pC,aQ bJ (U [J 3]),bp true]),J 4])),bq (bT cZ dY (J 8) (U [ai (U [wS xW,wI 0,az (bc k) 923 (U [aA 0]),wZ,J 2,aQ bJ (U [J 6])])])),bq (bT cZ dY (J 8) (U [ai (U [wS xW,wI 0,J 7,ai (U [ai (U [wS ju,ai aI,ai aI])]),J 2,aQ bJ (U [J 5])])])),bq (bT cZ dY (J 8) (U [ai (U [wS ue,wI 0,wS uf,af (af (aA 0) (wS dW)) (wI 0),ai (U [wS il,wI 0,wI 1,wZ]),bp true])])),aC (aq 9) (eg (U [ai (U [wS jJ,wI 0,wS B4,cC (.tup [.tup [],.tup []]),wS pC,ai (U [ai (U [wS MJ,az k 904 (U [aY (U [wS dX])]),bp false])]),bp true])])),aC (aq 10) (ai (U [wS B5,wS s3,ai (U [ai (U [wS B6,az k 904 (U [aY (U [wS dX])]),bp true])])])),bq (bT cZ dY (J 9) (U [ai (U [wS lW,wI 0,wS o5,cC (.tup [.tup [],.tup []]),ai (U [ai (U [wS B7,wS B8,ai aI]),J 10]),bp true])])),bq (bT cZ dY (J 9) (U [az (bc k) 928 (U [wS rq,aA 0,bC (au .Eq (J 1) (wS xX)) (wS kh) wZ,bp false])])),aB (au .Eq (J 1) (wS B9)) (ag [bq (bT cZ dY (J 9) (U [ai (U [wS gR,wI 0,wS rq,cC (.tup [.tup [],.tup []]),wZ,ai aI,wZ,cC (.tup [.str o7,.int 0,.tup [],.none]),bp true])]))]) aF,aG (bb false (J 8) (aY (U [ai (U [wS kz,wI 0,wS fJ,aQ bJ (U [J 9]),bp true])])))])⟩
theorem aaO:FK Jf K9:=fK (uq ["items","inner"])
noncomputable def La:aM:=⟨4,[],[true,true,true,true],[],λk=>(ag [aC (aq 4) (bC (c6 (au .IsNot (af (J 1) (wS cM)) wZ) (c6 (au .Is (J 2) wZ) bo)) (aY (U [ai (U [af (J 1) (wS cM),ai aI])])) (aY aI)),k9 true (.one 1) true [] (cu (af (J 1) (wS fx))) bo (af (J 1) (wI 1)) (aq 5),aC (ff 2 (aV (aq 7) (aV (aq 6) bL))) (ai (U [aQ sM (U [af (J 1) (wS gS)]),eg aI])),aB (au .IsNot (J 2) wZ) (ag [aC (aq 8) (ai (U [wS s4,wS fh,af (J 1) (wS gS),bC (au .IsNot (af (J 1) (wS cM)) wZ) (ai (U [ai (U [wS fu,wS cM])])) (ai aI)])),aB (au .NotEq (J 2) (wS kh)) (ag [bq (bT cZ dY (J 7) (U [wS h9])),aC (aq 8) (ai (U [wS s0,wS h9,c0 .Eq (J 2) (wS s8),J 8]))]) aF,aC (aq 5) (bb true (aY (U [J 8])) (J 5))]) aF,aB (cF (af (J 1) (wS o6))) (ag [bq (bT cZ dY (J 7) (U [bb false (wS s6) (aQ mW (U [bb false (aQ dB (U [J 7])) (wI 1)]))])),bq (bT cZ dY (J 5) (U [ai (U [wS s0,af (J 7) (iM (wI 1)),bp false,ai (U [wS il,wS dX])])]))]) aF,aB (au .NotEq (ai (U [aQ gd (U [aw [626,647,668,690,752] f7 (J 0)]),aQ gd (U [aw [647] ky (J 0)]),aw [647] yI (J 0),aw [647] BZ (J 0)])) (ai (U [bb false (J 3) (J 4),J 4,J 2,bp true]))) (ag [aG (bp false)]) aF,aG (oM (c0 .Eq (aQ bJ (U [aw [647] fx (J 0)])) (aQ bJ (U [J 5]))) (oM (c0 .Eq (aw [647] dw (J 0)) (af (af (J 1) (wS dw)) (wI 1))) (c0 .Eq (aQ gd (U [aw [626,647,690,752] eA (J 0)])) (bb false (J 6) (J 7)))))])⟩
theorem aaP:FK Jg La:=fK (uq ["inputs"])
noncomputable def Lb:aM:=⟨2,[],[true,false],[(1,some 1)],λk=>(ag [aC (ff 2 (aV (aq 3) (aV (aq 2) bL))) (ai (U [af (aw [719] jK (J 0)) (wS fh),af (aw [719] jK (J 0)) (wS lB)])),k9 false (.one 1) true [(3,1)] (iO (aQ dB (U [af (aA 1) (wS dH)]))) bo (ai (U [bb false (wS ME) (aQ mW (U [J 1])),af (af (af (aA 3) (wS dH)) (J 1)) (wI 1)])) (aq 5),aB (au .NotEq (ai (U [aw [216,626,752] jI (J 2),aQ bJ (U [aw [626,647,690,752] eA (J 2)]),aQ bJ (U [aw [626,647,668,690,752] f7 (J 2)])])) (ai (U [wS di,af (aA 1) (wS gS),bC (au .Is (af (aA 1) (wS cM)) wZ) (ai aI) (ai (U [wS cM]))]))) (ag [aG (bp false)]) aF,aB (au .NotEq (bP false (.one 1) true [] (cu (aw [601,626] nF (J 2))) bo (aQ gd (U [J 1]))) (aY (U [qD (af (aA 1) (wS fg)) (aQ dB (U [J 5]))]))) (ag [aG (bp false)]) aF,aB (bI (au .NotEq (aQ gd (U [aw [626,719] nE (J 2)])) (aY (U [ai (U [wS fh,wS pC,J 5])]))) (bI (cF (aw [626] BY (J 2))) (bI (eZ (cF (aw [626] BY (J 3)))) (bI (au .NotEq (aQ dB (U [aw [719] jK (J 0)])) (wI 3)) dP)))) (ag [aG (bp false)]) aF,aB (au .NotEq (aQ gd (U [aw [626,719] nE (J 3)])) (aY (U [ai (U [wS B7,wS B8,aY aI]),ai (U [wS B5,wS s3,aY (U [ai (U [wS B6,ai (U [wS il,wS dX])])])])]))) (ag [aG (bp false)]) aF,qH (aq 4) (aQ dB (U [J 5])) (ag [aB (bI (eZ (cF (a9 (bc k) [(719,716)] xY (J 0) (U [wS fh,wI 0,J 4,wS fJ])))) (bI (au .IsNot (a9 (bc k) [(719,716)] xY (J 0) (U [wS fh,wI 0,J 4,wS di])) (bp true)) dP)) (ag [aG (bp false)]) aF]),aB (bI (cF (a9 (bc k) [(719,716)] xY (J 0) (U [wS o8,wI 0,wI 0,wS di]))) (bI (eZ (cF (a9 (bc k) [(719,716)] xY (J 0) (U [wS o8,wI 0,wI 0,wS fJ])))) dP)) (ag [aG (bp false)]) aF,aG (c0 .Eq (aw [626,719] nE (J 0)) (hV [fh,MK,ML,o8] (U [ai (U [wS fh,wI 0]),ai (U [wS lB,wI 0]),ai (U [wS lB,wI 1]),ai (U [wS o8,wI 0])])))])⟩
theorem aaQ:FK Jh Lb:=fK aW
noncomputable def Lc:aM:=⟨2,[],[true,true],[],λk=>(ag [aC (aq 2) (bC (au .Is (af (J 1) (wS cM)) wZ) (aY aI) (aY (U [ai (U [wS cM,ai aI])]))),aC (ff 2 (aV (aq 4) (aV (aq 3) bL))) (ai (U [aw [719] uW (J 0),lL (c0 .Is (af (J 1) (wS cM)) wZ) (c0 .Eq (af (J 1) (wS gS)) (ai aI))])),aC (aq 5) (ai (U [wS s4,wS fh,af (J 1) (wS gS),bC (au .IsNot (af (J 1) (wS cM)) wZ) (ai (U [ai (U [wS fu,wS cM])])) (ai aI)])),aB (eZ (cF (az (bc k) 938 (U [af (aw [719] uV (J 0)) (wS ug),J 1,wZ,aY aI])))) (ag [aG (bp false)]) aF,aB (c6 (cF (J 4)) (c6 (eZ (cF (az (bc k) 938 (U [af (aw [719] uV (J 0)) (wS xZ),J 1,af (J 1) (wS eR),J 2])))) bo)) (ag [aG (bp false)]) aF,k9 false (.one 1) true [] (cu (J 3)) bo (ai (U [aw [690] MC (J 1),aQ bJ (U [aw [626,647,690,752] eA (J 1)]),aQ gd (U [aw [626,647,668,690,752] f7 (J 1)]),aw [690] gA (J 1),aw [216,690,752] gy (J 1)])) (aq 6),aB (au .NotEq (J 6) (aY (U [ai (U [wI 0,af (J 1) (wS gS),J 2,wZ,J 5]),ai (U [wI 1,af (J 1) (wS gS),J 2,wS ju,J 5])]))) (ag [aG (bp false)]) aF,aC (aq 7) (bC (cF (af (J 1) (wS hZ))) er (hV [m5] (U [wS MM]))),aB (bI (au .NotEq (aw [668,690] g7 (af (J 3) (wI 0))) (bC (cF (J 4)) (hV [ky] (U [wS xZ])) er)) (bI (au .NotEq (aw [668,690] g7 (af (J 3) (wI 1))) (J 7)) dP)) (ag [aG (bp false)]) aF,aC (aq 8) (af (aw [719] rP (J 0)) (wS ju)),aB (bI (au .NotEq (aw [668] Df (J 8)) (bC (cF (af (J 1) (wS hZ))) (hV [m5] (U [wS MN])) er)) (bI (au .NotEq (aQ Ax (U [aw [668,690] g7 (J 8)])) (aY (U [wS m5]))) dP)) (ag [aG (bp false)]) aF,aB (bI (au .NotEq (aQ gd (U [aw [626,647,668,690,752] f7 (af (aw [668,690] g7 (J 8)) (wS m5))])) (aY (U [ai (U [wS kx,ai (U [wS ju])])]))) (bI (au .IsNot (aw [647] BZ (af (aw [668,690] g7 (J 8)) (wS m5))) (af (J 1) (wS hZ))) dP)) (ag [aG (bp false)]) aF,aC (aq 9) (bb false (aY (U [bC (cF (af (J 1) (wS hZ))) (wS MN) (wS MM),wS ug])) (ua (aY (U [wS xZ])) (aQ wm (U [J 4])))),aB (bI (au .NotEq (aQ nR (U [aw [719] rn (J 0)])) (aQ nR (U [J 9]))) (bI (au .NotEq (qE (af (aw [719] rn (J 0)) (wS ug)) (wI 1)) (ai (U [wS fJ,wZ]))) dP)) (ag [aG (bp false)]) aF,aB (au .NotEq (qE (af (aw [719] rn (J 0)) (af (J 9) (wI 0))) (wI 1)) (ai (U [wS di,bC (cF (af (J 1) (wS hZ))) (ai (U [wS fu,wS kx])) (J 5)]))) (ag [aG (bp false)]) aF,aB (c6 (cF (J 4)) (c6 (au .NotEq (qE (af (aw [719] rn (J 0)) (wS xZ)) (wI 1)) (ai (U [wS di,J 5]))) bo)) (ag [aG (bp false)]) aF,aG (c0 .Eq (aw [719] B0 (J 0)) (hV [uf] (U [ai (U [af (af (J 1) (wS dW)) (wI 1),ai (U [wS il,wI 0,wI 1,wZ]),wS di])])))])⟩
theorem aaR:FK Ji Lc:=fK aW
noncomputable def Dt:ly:=.e 0 λk=>(bC (au .Is (J 0) wZ) (aA 1) (J 0))
noncomputable def Du:ly:=.e 0 λk=>(bC (au .Is (J 0) wZ) (wS gw) (J 0))
noncomputable def Dv:ly:=.e 0 λk=>(bC (au .In (J 0) (aw [626,647,690,752] eA (aA 1))) (ai (U [wS ky,J 0])) (J 0))
noncomputable def Dw:ly:=.s 0 λk=>(ag [aG (bT n4 oN (aA 1) (U [J 0,J 0]))])
noncomputable def cP(i:Nat):Option ly:=lk i [(0,Dt),(1,Du),(2,Dv),(3,Dw)]
theorem Dx (gx:GX W){b:Call->Ev}(h:aD false o (λp=>rk ⟨"region",.expr p.1,p.2⟩ 0)=true) (a:∀ (W:Wd) (gx:GX W) call d,aD jG o (λp=>((cm gx aW fuel ⟨p.2.names,call,d,none,false⟩).e false p.1).1)=b call):∃ D,o9 o=some D/\gN W D (.e 0 b):=by
 refine Y (aR h nofun) ?_;clear h;intro p c h;subst c;exact (ay _ rfl (acs h λcall d=>a W gx call d▸((cm gx aW fuel ⟨p.2.names,call,d,none,false⟩).e false p.1).2))
theorem k_s (gx:GX W){b:Call->Sc}(h:aD false o (λp=>rk ⟨"region",.stmts p.1,p.2⟩ 0)=true) (a:∀ (W:Wd) (gx:GX W) call d,aD g0 o (λp=>(cB (cm gx aW fuel ⟨p.2.names,call,d,none,false⟩) p.1).1)=b call):∃ D,Cc o=some D/\gN W D (.s 0 b):=by
 refine Y (aR h nofun) ?_;clear h;intro p c h;subst c;exact (ay _ rfl (acu h λcall d=>a W gx call d▸(cB (cm gx aW fuel ⟨p.2.names,call,d,none,false⟩) p.1).2))
theorem k_0 (gx:GX W):∃ D,kX 0=some D/\gN W D Dt:=Dx gx (o:=x9 qR.body) (by kernel_rfl) (by intros;kernel_rfl)
theorem k_1 (gx:GX W):∃ D,kX 1=some D/\gN W D Du:=Dx gx (o:=ya qU.body) (by kernel_rfl) (by intros;kernel_rfl)
theorem k_2 (gx:GX W):∃ D,kX 2=some D/\gN W D Dv:=Dx gx (o:=yb qT.body) (by kernel_rfl) (by intros;kernel_rfl)
theorem k_3 (gx:GX W):∃ D,kX 3=some D/\gN W D Dw:=k_s gx (o:=yc qS.body) (by kernel_rfl) (by intros;kernel_rfl)
theorem all_cons{α:Type}{P:α->Prop}{a:α}{l:List α}(h:P a) (h':∀ x∈l,P x):∀ x∈a::l,P x:=λx b=>(aeq.mp b).elim (λe=>e▸h) (h' x)
theorem all_nil{α:Type}{P:α->Prop}:∀ x∈([]:List α),P x:=λa h=>nomatch h
theorem TF (gx:GX W):∀ e∈[(0,Dt),(1,Du),(2,Dv),(3,Dw)],∃ d,W.kt.bY e.1=some d/\gN W d e.2:=by
 rw[gx.bY];exact all_cons (k_0 gx) (all_cons (k_1 gx) (all_cons (k_2 gx) (all_cons (k_3 gx) all_nil)))
theorem TG (gx:GX W):oa W cP:=λi E h=>TF gx (i,E) (iA h)
inductive BT where
 |lf(a:Nat)(e:aM)|nd(m:Nat)(l r:BT)
noncomputable def BT.get (a:Nat) (t:BT):Option aM:=BT.rec (motive:=λc=>Option aM) (λb e=>aen (motive:=λc=>Option aM) none (some e) (aem a b)) (λm c c d f=>aen (motive:=λc=>Option aM) d f (aeQ m a)) t
noncomputable def BT.list:BT->List (Nat×aM)
 |.lf a e=>[(a,e)]
 |.nd b l r=>l.list++r.list
theorem BT.mem:∀ {t:BT},t.get a=some e->(a,e)∈t.list
 |.lf b c,h=>by
  have h':aen (motive:=λd=>Option aM) none (some c) (aem a b)=some e:=h
  induction q:aem a b using aee with
  |false=>rw[q]at h';exact aT h'
  |true=>rw[q]at h';have f:=aea h';clear h';subst c;rw[aed q];exact ael.mpr rfl
 |.nd m l r,h=>by
  have h':aen (motive:=λd=>Option aM) (l.get a) (r.get a) (aeQ m a)=some e:=h
  induction q:aeQ m a using aee with
  |false=>rw[q]at h';exact aef _ (BT.mem h')
  |true=>rw[q]at h';exact aek _ (BT.mem h')
noncomputable def MW:BT:=(.nd 519 (.nd 281 (.nd 208 (.nd 163 (.nd 129 (.nd 115 (.lf 110 Ju) (.lf 115 Jv)) (.nd 136 (.lf 129 Jw) (.nd 149 (.lf 136 Jx) (.lf 149 Jy)))) (.nd 189 (.nd 177 (.lf 163 Jz) (.nd 182 (.lf 177 JA) (.lf 182 JC))) (.nd 194 (.lf 189 JF) (.nd 201 (.lf 194 JH) (.lf 201 JJ))))) (.nd 243 (.nd 228 (.nd 213 (.lf 208 JK) (.lf 213 JL)) (.nd 233 (.lf 228 JM) (.nd 238 (.lf 233 JO) (.lf 238 JQ)))) (.nd 262 (.nd 250 (.lf 243 JR) (.nd 257 (.lf 250 JU) (.lf 257 JW))) (.nd 267 (.lf 262 JX) (.nd 274 (.lf 267 JY) (.lf 274 JZ)))))) (.nd 395 (.nd 329 (.nd 305 (.nd 300 (.lf 281 J0) (.lf 300 J1)) (.nd 310 (.lf 305 J2) (.nd 315 (.lf 310 J3) (.lf 315 J4)))) (.nd 362 (.nd 336 (.lf 329 J5) (.nd 343 (.lf 336 J6) (.lf 343 J7))) (.nd 376 (.lf 362 J8) (.nd 383 (.lf 376 J9) (.lf 383 Ka))))) (.nd 467 (.nd 409 (.nd 402 (.lf 395 Kb) (.lf 402 Kc)) (.nd 418 (.lf 409 Kd) (.nd 432 (.lf 418 Ke) (.lf 432 Kf)))) (.nd 500 (.nd 474 (.lf 467 Kg) (.nd 479 (.lf 474 Kh) (.lf 479 Ki))) (.nd 507 (.lf 500 Kj) (.nd 514 (.lf 507 Kk) (.lf 514 Kl))))))) (.nd 794 (.nd 665 (.nd 562 (.nd 540 (.nd 526 (.lf 519 Km) (.lf 526 Ko)) (.nd 548 (.lf 540 Kq) (.nd 555 (.lf 548 Kr) (.lf 555 Ks)))) (.nd 598 (.nd 569 (.lf 562 Kt) (.nd 576 (.lf 569 Ku) (.lf 576 Kw))) (.nd 623 (.lf 598 Kx) (.nd 644 (.lf 623 Ky) (.lf 644 Kz))))) (.nd 742 (.nd 709 (.nd 687 (.lf 665 KA) (.lf 687 KC)) (.nd 716 (.lf 709 KD) (.nd 737 (.lf 716 KE) (.lf 737 KG)))) (.nd 775 (.nd 749 (.lf 742 KH) (.nd 770 (.lf 749 KI) (.lf 770 KJ))) (.nd 782 (.lf 775 KL) (.nd 789 (.lf 782 KN) (.lf 789 KO)))))) (.nd 870 (.nd 823 (.nd 804 (.nd 799 (.lf 794 KP) (.lf 799 KQ)) (.nd 811 (.lf 804 KR) (.nd 818 (.lf 811 KS) (.lf 818 KU)))) (.nd 844 (.nd 830 (.lf 823 KV) (.nd 837 (.lf 830 KW) (.lf 837 KY))) (.nd 849 (.lf 844 KZ) (.nd 863 (.lf 849 K0) (.lf 863 K1))))) (.nd 923 (.nd 904 (.nd 884 (.lf 870 K2) (.nd 891 (.lf 884 Jt) (.lf 891 K3))) (.nd 911 (.lf 904 K4) (.nd 916 (.lf 911 K5) (.lf 916 K6)))) (.nd 938 (.nd 928 (.lf 923 K7) (.nd 933 (.lf 928 K8) (.lf 933 K9))) (.nd 943 (.lf 938 La) (.nd 948 (.lf 943 Lb) (.lf 948 Lc))))))))
noncomputable def cQ:Tab:=λa=>MW.get a
noncomputable def cR:rA:=λa=>lk a sA
theorem ac{a:Nat}{D:aJ}{E:aM}{l:List (Nat×aM)}(f:FK D E) (h:∀ e∈l,∃ fd,cO.fn e.1=some fd/\FK fd e.2/\aeS fd.dh=true) (b:cO.fn a=some D:=by kernel_rfl) (c:aeS D.dh=true:=by kernel_rfl):∀ e∈(a,E)::l,∃ fd,cO.fn e.1=some fd/\FK fd e.2/\aeS fd.dh=true:=all_cons (dI D b f c) h
theorem VC:∀ e∈MW.list,∃ fd,cO.fn e.1=some fd/\FK fd e.2/\aeS fd.dh=true:=
 ac Zq (ac Zr (ac Zs (ac Zt (ac Zu (ac Zv (ac Zw (ac Zx (ac Zy (ac Zz (ac ZA (ac ZC (ac ZD (ac ZE (ac ZF (ac ZG (ac ZH (ac ZI (ac ZJ (ac ZK (ac ZL (ac ZM (ac ZN (ac ZO (ac ZP (ac ZQ (ac ZR (ac ZT (ac ZU (ac ZV (ac ZW (ac ZX (ac ZY (ac ZZ (ac Z0 (ac Z1 (ac Z2 (ac Z3 (ac Z4 (ac Z5 (ac Z6 (ac Z7 (ac Z8 (ac Z9 (ac aaa (ac aab (ac aac (ac aad (ac aae (ac aaf (ac aag (ac aah (ac aai (ac aaj (ac aak (ac aal (ac aam (ac aan (ac aao (ac aap (ac aaq (ac aar (ac aas (ac aat (ac aau (ac aav (ac aaw (ac aax (ac aay (ac aaz (ac aaA (ac aaB (ac aaC (ac aaD (ac aaE (ac aaF (ac aaG (ac aaH (ac Zp (ac aaI (ac aaJ (ac aaK (ac aaL (ac aaM (ac aaN (ac aaO (ac aaP (ac aaQ (ac aaR all_nil))))))))))))))))))))))))))))))))))))))))))))))))))))))))))))))))))))))))))))))))))))))))
theorem Xg (gx:GX W):mw W cQ cR:=⟨λa E h=>(cJ (VC (a,E) (BT.mem h)) λb c d e=>(dI b (gx.g▸c) (d W gx) e)),λa f h=>gx.g▸h⟩
section
variable{prog:ae0}{w:afh}{sl:KX}{θ:Nat->Nat->O}{cond:Nat->Bool}{src:List (aep×List aec)}{os:afn}
theorem GS (sl:KX):∀ e∈(36,um)::oB,w7 sl.K e=w8 e:=aic.mp (congrArg (·.2.1) sl.ok)
theorem aaS (sl:KX):∀ C∈uj,mZ sl.K C 36/\keepIn sl.K (.ref C)=true:=λC h=>ac3 (aic.mp (congrArg (·.2.2) sl.ok) C h)
structure AllB(K:afM):Prop where
 exm:MU K=true
 nam:Ce K=true
 boot:Jk K=true
 keep:Jl K=true
 ck:Jm K=true
 att:Cf K=true
 init:Jn K=true
 bm:ke K=true
 turn:(jh.all λp=>tB K p.1 "turn" p.2)=true
 hd:(lX.all λp=>jt K p.1 p.2)=true
 exc:nsIn K ae1 "Exception" =some none
 nt:noTabs K=true
theorem allB_of{K:afM}(h:allB K=true):AllB K:=by
 refine ae (ad9.mp h) ?_;clear h;intro a b;refine ae (ad9.mp a) ?_;clear a;intro c d;refine ae (ad9.mp c) ?_;clear c;intro e k;refine ae (ad9.mp e) ?_;clear e;intro l m;refine ae (ad9.mp d) ?_;clear d;intro n o;refine ae (ad9.mp b) ?_;clear b;intro f g;refine ae (ad9.mp f) ?_;clear f;intro p q;refine ae (ad9.mp g) ?_;clear g;intro i j;refine ae (ad9.mp i) ?_;clear i;intro r s;refine ae (ad9.mp j) ?_;clear j;intro t w;refine ae (ad9.mp w) ?_;clear w;intro w u;exact⟨l,m,k,n,o,p,q,r,s,t,beq_iff_eq.mp w,u⟩
theorem mn (sl:KX):AllB sl.K:=allB_of (congrArg (·.1) sl.ok)
theorem VD (sl:KX) (d:W.K=sl.K):sS W 36:=by
 obtain⟨l,n,params,o,p,r,t,u,v,x,f,g,a,h,b⟩:=GR (GS sl _ (.head _));have c:=(ad9.mp h).1;have ex:=(mn sl).exc;rw[←d]at a c b ex;refine⟨(O1 f _ g Vu (w6 a) (by kernel_rfl) (by kernel_rfl) c rfl rfl (by kernel_rfl) (by kernel_rfl) (by kernel_rfl) (by kernel_rfl) (λe m w s X=>kp_binds X λS=>?_)),ex⟩
 have q:=b 0 (Nat.succ_pos _) (λi=>([e,m,w][i]?).getD .none) S
 have j:lE (λi=>([e,m,w][i]?).getD .none) (um.params.length-0)=[e,m,w]:=by kernel_rfl
 have k:um.params=([("self" :Str),"message","spot"]:List Str):=by kernel_rfl
 rw[j,Nat.sub_zero,ahA,k]at q;exact q
theorem gx:GX (jL prog w sl θ cond src os):=⟨rfl,aaS sl,VD sl rfl,(mn sl).turn,(mn sl).hd,(mn sl).bm,rfl⟩
theorem mK:mw (jL prog w sl θ cond src os) cQ cR:=Xg gx
theorem mh:oa (jL prog w sl θ cond src os) cP:=TG gx
theorem TH:(oB.all λe=>Jo e.2)=true:=by kernel_rfl
theorem VE{K:afM}(h:Ce K=true) (e:(x,v)∈Ad) (a:T.K=K){α N}:∃ val,nsIn K ae1 x=some (some val)/\VR T α N val v:=by
 have q:=aeB.mp h (x,v) e;dsimp only at q;generalize nsIn K ae1 x=o at q ⊢;induction o using aer with
 |none=>exact aX q
 |some o=> induction o using aer with
  |none=>exact aX q
  |some val=>exact (ay val rfl (Jj a q))
theorem Xh{K:afM}(h:Cf K=true){l}(e:(C,l)∈sz) (b:x∈l):ajm K C x=true/\hasDictIn K C=true/\(∃ a,agj K (.ref C) x=some a/\noGet K a=true)/\ agj K (.ref C) "__setattr__" =some (some (.builtin "object.__setattr__"))/\plainOver K C=true/\takerIn K C x=some none:=by
 refine ae (ad9.mp (aeB.mp (aeB.mp h _ e) _ b)) ?_;clear h e b;intro c i;refine ae (ad9.mp c) ?_;clear c;intro d j;refine ae (ad9.mp d) ?_;clear d;intro f k;refine ae (ad9.mp f) ?_;clear f;intro g w;refine ae (ad9.mp g) ?_;clear g;intro m n;refine (Fo m n ?_ (beq_iff_eq.mp k) j (beq_iff_eq.mp i));generalize agj K (.ref C) x=o at w ⊢;induction o using aer with
 |none=>exact aX w
 |some a=>exact (ay a rfl w)
theorem gok (q:jg (jL prog w sl θ cond src os).kt) (s:∀ n,∃ b,θ 7 n=.bool b) (t:∀ f k n,below n (θ f k)=true) (u:∀ k,∃ a r,θ 0 k=.tup (a::.int 0::r)/\a.sure=true) (y:∀ k,∃ l:List Str,θ 2 k=.hl (l.map .str)) (z:∀ k,∃ x,θ 5 k=.str x):Cr (jL prog w sl θ cond src os):=by
 have B:=mn sl;refine⟨q,s,t,u,y,z,λx v e F N=>VE B.nam (F8 e) rfl,λx e=>?_,λa o e=>TA (GS sl (a,o) (.tail _ (iA e))) (aeB.mp TH (a,o) (iA e)),λa e=>?_,λC h f e=>?_,λC h e=>?_,λC f e=>?_⟩
 ·refine ae (ad9.mp (aeB.mp B.boot x (Ff e))) λc d=>?_
  exact⟨beq_iff_eq.mp c,beq_eq_false_iff_ne.mp ((aeK _).mp d)⟩
 ·refine ae (ad9.mp B.keep) λA D=>?_
  rcases e with e|e
  ·refine aL (ah0.mp e) λv i=>?_
   exact aeB.mp A _ (iA i)
  ·refine aL (ah0.mp e) λv i=>?_
   exact aeB.mp D _ (iA i)
 ·refine Y (aR (show aD none (lk C vQ) (bw h)=some f from e) nofun) ?_;clear e;intro l j e;refine ae (ad9.mp (aeB.mp (aeB.mp B.ck _ (iA j)) _ (F8 e))) λg E=>?_
  refine ae (ad9.mp g) λp m=>?_
  refine ae (ad9.mp p) ?_;clear p;intro c d;exact (j5 c (beq_iff_eq.mp d) m E)
 ·refine Y (aR (show aD false (lk C sz) (jv h)=true from e) nofun) ?_;clear e;intro l j e;exact Xh B.att (iA j) (Ff e)
 ·refine ae (ad9.mp (aeB.mp B.init _ (iA (show lk C sA=some f from e)))) ?_;clear B e;intro g m;refine ae (ad9.mp g) ?_;clear g;intro c d;exact (bH c (beq_iff_eq.mp d) m)
end
def kept (a:Nat):Bool:=aem (Nat.land (Nat.shiftRight (nat_lit 58932379627151830875139217156252475216175575713184952896968642426399875476142532199742152708834142175127105649307633611698715821926908970257241479346262554055969968608292202632877009102007975011989286420782363889713792491946412858947853209071773161681297455350045362360612296478255020507160) a) (nat_lit 1)) (nat_lit 1)
def lh (g:Nat->Option Obj):Frag:=(afT 963).filterMap λa=>aen none ((g a).map λo=>(a,o)) (kept a)
theorem TJ{g:Nat->Option Obj}{a:Nat}{o:Obj}(h:(lh g).lookup a=some o):g a=some o:=by
 obtain⟨b,_,c⟩:=ah3.mp (mem_of_lookupK h);replace c:aen (motive:=λ_=>Option (Nat×Obj)) none ((g b).map λo=>(b,o)) (kept b)=some (a,o):=c
 cases q:kept b with
 |false=>rw[q]at c;cases c
 |true=>
  rw[q]at c;obtain⟨d,e,c⟩:=afZ.mp (show (g b).map (λo=>(b,o))=some (a,o) from c)
  cases c
  exact e
abbrev pw:=aiU
abbrev jN:=ahu
def NN:Nat:=20000
def qv:Program:=view pw [82]
def lsN:List Str:=pw.boundNames.filter λn=>!(n ==("law" :Str))
def m7:DefRec:=match A6 82 with
 |some (.FunctionDef n a b _ _ _ sc _ _ c)=>⟨n,a,b,sc,c⟩
 |_=>⟨"",⟨[],[],none,[],[],none,[]⟩,[],⟨.function,[],false,false,[]⟩,⟨0,0,0,0⟩⟩
def mM:List Nat:=lX.map (·.2)
def hk:Hook where
 α:=List (Option Obj)×Bool×List ui×List uk;obs:=λs=>(mM.map s.heap.get?,obs (lh s.heap.get?))
 val:=λ_=>(mM.map λ_=>some (afe #[]),val)
 says:=λ_ h=>(∃ b:KX,b.K.In h)/\∀ P∈mM,h.get? P=some (afe #[])
 of:=λw s x=>⟨⟨⟨lh s.heap.get?,(aeZ x).2⟩,λa o e=>TJ e⟩,aic.mp (aeZ x).1⟩
 keeps:=λw h d x k=>⟨let⟨b,X⟩:=x.1;⟨b,λa o e=>k _ _ (X a o e)⟩,λP c=>k _ _ (x.2 P c)⟩
namespace HT
noncomputable section
def MX (st:(Code->Sem PySem.Fin)->ae0->afh->SharedT->Thread->Option (SharedT×Thread)) (a:Nat->Option aec->Thread->Bool) (b:Code->Sem PySem.Fin) (p:ae0) (w:afh) (c:Nat) (d:Option aec) (n:Nat):SharedT->Thread->Option SharedT:=
 afX (λ_ _=>none) (λ_ e s t=>aen (aen none (aeT none (λx=>e x.1 x.2) (st b p w s t)) (a c d t)) (some s) (through t)) n
abbrev kg:=MX stepT stepOk (denote ai6)
abbrev jq:=MX PySem.W.Fast.tw10156331382660048174 PySem.W.Fast.tw6613529449190102663 (PySem.W.Fast.tw11892475500146522536 PySem.W.Fast.tw14364793385576792824)
theorem VF:jq=kg:=by
 unfold jq kg;rw[PySem.W.Fast.te10156331382660048174,PySem.W.Fast.te11892475500146522536,PySem.W.Fast.te14364793385576792824,PySem.W.Fast.te6613529449190102663]
theorem Xi:∀ {s:SharedT}{t:Thread},kg p w a b n s t=some d->topRun ai6 p w a b n s.abs t=some d.abs:=by
 induction n with
 |zero=>exact λh=>nomatch h
 |succ n f=>
  intro s t h;replace h:(aen (aen none (aeT none (λx=>kg p w a b n x.1 x.2) (stepT (denote ai6) p w s t)) (stepOk a b t)) (some s) (through t):Option SharedT)=some d:=h
  unfold topRun
  cases e:through t with
  |true=>rw[e]at h;exact congrArg _ (congrArg SharedT.abs (aea h))
  |false=>
   rw[e]at h
   cases hk:stepOk a b t with
   |false=>rw[hk]at h;exact nomatch h
   |true=>
    rw[hk]at h
    cases c:stepT (denote ai6) p w s t with
    |none=>rw[c]at h;exact nomatch h
    |some r=>rw[c]at h;dsimp only;rw[stepT_spec c];exact f h
def put (l:List Obj) (T:BT) (n:Nat):BT×Nat:=match l with
 |[]=>(T,n)
 |o::l=>put l (T.ins n o) (n+1)
def Ld (P:Params):BT×Nat:=put (agO P).objs.toList .nil 0
end
end HT
namespace HT
noncomputable section
theorem adk (P:Params):absHeap (Ld P).1 11 (agO P).life=agO P:=by kernel_rfl
theorem sz0 (P:Params):((agO P).isNs ae1&&(ajy ([]:List GenState)).size ==0,(agO P).objs.size,(agO P).nsMap ae1 "__annotations__")=(true,11,some (.ref 6)):=by kernel_rfl
def S1(w:afh)(os:afn):SharedT:=⟨(Ld w.params).1,11,(agO w.params).life,ajy [],ajk,boot_toks,os⟩
theorem adl (w:afh) (os:afn):(S1 w os).abs=⟨agO w.params,ajy [],ajk,boot_toks,os⟩:=congrArg (λh=>(⟨h,ajy [],ajk,boot_toks,os⟩:aeg)) (adk w.params)
abbrev Ba (p:ae0) (P:Params) (s:aeg):Bool:=staticsOk (importedModules p.main.body) (agO P) s.heap&&namesBound p s.heap&&gensDone s&&laidKept (agO P) s.heap
theorem LeftO.Xj{p q:ae0}{a:List Str}{b:aeg->Bool}{α:Type}{c:aeg->α}{g:afh->α}{N:Nat}(i:aeQ 600 N=true)
  (e:opening p=plainProg p.main.scope.names) (f:∀ s,fenceModules? p s=some s)
  (run:∀ (w:afh) (os:afn),(kg p w 11 (some (.ref 6)) N (S1 w os) (topStub p)).map (λS=>(Ba p w.params S.abs,openSeen q a (importedModules p.main.body) b true S.abs,c S.abs))=some (true,openGood q a,g w)):LeftO p q a b c g N:=λw=>by
 obtain ⟨⟨h,j,d,k,os⟩,l,m⟩:=afZ.mp (boot_open (p:=p) (N:=N) e i f w)
 obtain ⟨rfl,rfl,rfl,rfl⟩:h=agO w.params/\j=ajy []/\d=ajk/\k=boot_toks:=by simpa using m
 obtain ⟨n,o,u⟩:_/\_/\_:=by simpa only [aja]using sz0 w.params
 obtain ⟨S,v,x⟩:=afZ.mp (run w os)
 have r:=Xi v
 rw [adl]at r
 obtain ⟨y,z,A⟩:_/\_/\_:=by simpa only [aja]using x
 have t:topFrom ai6 p w N ⟨agO w.params,ajy [],ajk,boot_toks,os⟩=some S.abs:=by
  unfold topFrom
  dsimp only
  rw [n,o,u,r]
  show (match Ba p w.params S.abs with|true=>_|false=>_)=_
  rw [y]
 unfold openEnds
 rw [l]
 show (topFrom ai6 p w N _).map _=_
 rw [t]
 exact congrArg some (Prod.ext z A)
end
end HT
theorem aaT{α d:Type}{f c:α->Option d}{l:List α}:(∀ a,a∈l->f a=c a)->l.filterMap f=l.filterMap c:=by
 induction l with
 |nil=>exact λ_=>rfl
 |cons a l e=> intro h;rw[aiM,aiM,h a (.head _),e λb g=>h b (.tail _ g)]
theorem TK{g b:Nat->Option Obj}(h:∀ a,a<963->g a=b a):lh g=lh b:=
 aaT λa c=>congrArg (λo:Option Obj=>(aen none (o.map λo=>(a,o)) (kept a):Option (aep×Obj))) (h a (agF.mp c))
def ru (S:SharedT)(a:Nat):Option Obj:=alive ((S.tree.get a).getD default)
theorem Fg{S:SharedT}(b:aeQ 963 S.n=true){a:Nat}(c:a<963):S.abs.heap.get? a=ru S a:=by
 show (absHeap S.tree S.n S.life).get? a=_;unfold Heap.get? ru;rw[absHeap_at,if_pos (aej c (aei b))];generalize (S.tree.get a).getD default=o;obtain⟨_,_,dt,_⟩:=o
 cases dt<;>rfl
theorem op:opening pw=plainProg pw.main.scope.names:=by kernel_rfl
theorem fe:∀ s,fenceModules? pw s=some s:=by intro s;kernel_rfl
abbrev xt(s:aeg):Bool:=xlAt qv [] s&&recOk [] s
theorem VG (w:afh) (os:afn):(HT.jq pw w 11 (some (.ref 6)) NN (HT.S1 w os) (topStub pw)).map (λS=>(HT.Ba pw w.params S.abs,PySem.W.Fast.tw4187177175401517315 qv lsN (importedModules pw.main.body) xt true S.abs,and (aeQ 963 S.n) (mM.all λP=>aeQ P 962),mM.map (ru S),obs (lh (ru S))))=some (true,openGood qv lsN,true,mM.map (λ_=>some (afe #[])),val):=by kernel_rfl
theorem left:LeftO pw qv lsN xt hk.obs hk.val NN:=by
 refine HT.LeftO.Xj rfl op fe λw os=>?_
 have t:=VG w os;rw[HT.VF,←PySem.W.Fast.te4187177175401517315]at t;obtain⟨S,e,h⟩:=afZ.mp t;obtain⟨c,h⟩:=aeZ h;obtain⟨d,h⟩:=aeZ h;obtain⟨b,h⟩:=aeZ h;obtain⟨f,g⟩:=aeZ h;obtain⟨b,i⟩:=ad9.mp b;have j:mM.map S.abs.heap.get?=mM.map (ru S):=List.map_congr_left λP k=>Fg b (ahn (aei (aeB.mp i P k)))
 have l:lh S.abs.heap.get?=lh (ru S):=TK λa m=>Fg b m
 rw[e];refine congrArg some (Prod.ext c (Prod.ext d (Prod.ext (j.trans f) ?_)));show obs (lh S.abs.heap.get?)=val;rw[l];exact g
theorem adm:ahu.wellSaid=true:=by
 delta OpenLaw.wellSaid OpenRow.wellSaid OpenRow.partSaid looksOpen
 repeat' with_reducible refine look_both ?_ ?_
 all_goals decide +kernel
structure Fm where
 w:O
 t:O
 p:O
 e:O
 g:List O
noncomputable def j8(a:List O):O:=.tup [.str pB,.int 0,.tup a]
noncomputable def jw(x:Str):O:=.tup [.str x,.tup [],.tup []]
noncomputable def fU:Fm:=⟨j8 [jw dX],.tup [.str il,.str dX],.tup [.str il,.str dX],.tup [.str il,.str dX],[]⟩
noncomputable def fBo:Fm:=⟨j8 [jw lU],.tup [.str lU],.tup [.str lU],.tup [.str lU],[]⟩
noncomputable def fT:Fm:=⟨j8 [jw cM],.tup [.str fu,.str cM],.tup [.str fu,.str cM],.tup [.str fu,.str cM],[]⟩
noncomputable def gU:O:=.tup [.str s4,.str lB,.tup [],.tup []]
noncomputable def fE:Fm:=⟨j8 [jw o4,jw fJ,jw o5],gU,gU,gU,[]⟩
noncomputable def Dy(r a:O):O:=.tup [.str s0,.int 0,r,.bool true,a]
noncomputable def l3(r a:O):O:=.tup [.str s0,r,.bool true,a]
noncomputable def fA (x:Fm):Fm:=⟨Dy (.str lC) x.w,l3 (.str lC) x.t,l3 (.str lC) x.p,l3 .none x.e,.str lC::x.g⟩
noncomputable def fS (x:Fm):Fm:=⟨Dy (.str gw) x.w,l3 (.str gw) x.t,l3 (.str gw) x.p,l3 (.str gw) x.e,.str gw::x.g⟩
noncomputable def tu(a:O):O:=.tup [.str s3,.tup [a,a]]
noncomputable def Om(x:Fm):Fm:=⟨.tup [.str s3,.int 0,.tup [x.w,x.w]],tu x.t,tu x.p,tu x.e,x.g++x.g⟩
noncomputable def ar(a:O):O:=.tup [.str s2,a,.int 3]
noncomputable def Oo(x:Fm):Fm:=⟨.tup [.str s2,.int 0,x.w,.int 3],ar x.t,ar x.p,ar x.e,x.g⟩
noncomputable def bx(a:O):O:=.tup [.str s1,a]
noncomputable def Oq(x:Fm):Fm:=⟨j8 [.tup [.str yG,.tup [],.tup [x.w]]],bx x.t,bx x.p,bx x.e,x.g⟩
noncomputable def fBase(t:Bool):List Fm:=[fU,aen fBo fT t,fE]
noncomputable def Le(r:Bool)(x:Fm):List Fm:=aen [fS x,Om x,Oo x,Oq x] [fA x,fS x,Om x,Oo x,Oq x] r
noncomputable def bE (r t:Bool):Nat->List Fm
 |0=>fBase t
 |n+1=>fBase t++(bE r t n).flatMap (Le r)
noncomputable def fO:Fm:=⟨Dy .none fU.w,l3 (.str gw) fU.t,l3 .none fU.t,l3 (.str gw) fU.t,[.str gw]⟩
noncomputable def gI:List Fm:=fO::bE false false 1
noncomputable def adn (d:O->O->Bool) (a b:O):Bool:=O.casesOn (motive_1:=λc=>Bool) a (j1 false b true) (λx=>i8 false b λy=>x ==y) (λx=>dR false b λy=>decide (x=y)) (λx=>afD false b λy=>seq x y) (λl=>cD false b λr=>mL d l r) (λl=>lp false b λr=>mL d l r) (λc c=>false)
 (λc=>false) (λc=>false) (λc c=>false) (λc c=>false) (λc c=>false) false (λc=>false)
noncomputable def bz (n:Nat):O->O->Bool:=afX (motive:=λa=>O->O->Bool) (λa a=>false) (λa b=>adn b) n
theorem F9{f:O->O->Bool}(d:∀ {a b},f a b=true->a=b/\lg a=true):∀ {r:List O},mL f l r=true->l=r/\kW l=true:=by
 induction l with
 |nil=>exact λh=>⟨(sU h).symm,rfl⟩
 |cons a l e=> intro r h;refine aH (me h) ?_;clear h;intro b m c g i;subst c;refine ae (d g) ?_;clear d g;intro c j;subst c;refine ae (e i) ?_;clear e i;intro c k;subst c;exact ⟨rfl,ad9.mpr ⟨j,k⟩⟩
theorem eK:∀ {a b:O},bz n a b=true->a=b/\lg a=true:=by
 induction n with
 |zero=>exact λh=>nomatch h
 |succ n d=> intro a b h;induction a using O.casesOn with
  |none=>exact⟨(nK h nofun).1.symm,rfl⟩
  |bool x=>refine Y (pR h nofun) ?_;clear h;intro y c h;subst c;exact⟨congrArg _ (beq_iff_eq.mp h),rfl⟩
  |int x=>refine Y (jT h nofun) ?_;clear h;intro y c h;subst c;exact⟨congrArg _ (of_decide_eq_true h),rfl⟩
  |str x=>refine Y (gD h nofun) ?_;clear h;intro y c h;subst c;exact⟨congrArg _ (gG.mp h),rfl⟩
  |tup l=> refine Y (dO h nofun) ?_;clear h;intro r c h;subst c;refine ae (F9 d h) ?_;intro c q;subst c;exact⟨rfl,q⟩
  |hl l=> refine Y (sq h nofun) ?_;clear h;intro r c h;subst c;refine ae (F9 d h) ?_;clear d;intro c q;subst c;exact⟨rfl,q⟩
  |_=>exact aX h
noncomputable def gb (x:Rs) (r:O):Bool:=Rs.casesOn (motive:=λa=>Bool) x (λv=>bz 12 v r) (λa=>false) false
theorem Xk (h:gb x r=true):x=.ok r/\lg r=true:=by
 induction x using Rs.casesOn with
 |ok v=>refine ae (eK (show bz 12 v r=true from h)) ?_;intro a q;subst a;exact⟨rfl,q⟩
 |_=>exact aX h
noncomputable def fi (m:Nat) (f:O) (args:List O) (l:List AO) (loc:List (Nat×O)):Rs:=jk cQ cR cP m f args (gn l loc) (fW l.length)
theorem TL{m:Nat}{f:O}{args:List O}{l:List AO}{loc:List (Nat×O)}:fi m f args l loc=fi m f args l []:=by
 induction m using aez with
 |zero=>rfl
 |succ m=> unfold fi;show eO cQ cR cP (jk cQ cR cP m) f args (gn l loc) (fW l.length)=eO cQ cR cP (jk cQ cR cP m) f args (gn l []) (fW l.length);induction f using O.casesOn<;>rfl
noncomputable def fj (l:List Fm) (f:Fm->Bool):Bool:=aeC true (λx b a=>and (f x) a) l
theorem dD{l:List Fm}{f:Fm->Bool}(h:fj l f=true):∀ x∈l,f x=true:=by
 induction l with
 |nil=>intro x b;cases b
 |cons a l d=>
  have c:and (f a) (fj l f)=true:=h;rw[ae4]at c;intro x b;rcases aeq.mp b with rfl|b
  ·exact c.1
  ·exact d c.2 x b
noncomputable def dA (r:Bool):AO:=.dict (match r with|true=>[(lC,.none)]|false=>[])
noncomputable def dT (t:Bool):AO:=.dict (match t with|true=>[(cM,.tup [.str fu,.str cM])]|false=>[])
noncomputable def lM:List AO:=[.own,.obj 601 [(ip,.ref 2),(nF,.ref 3),(nG,.ref 4),(pA,.ref 5),(rR,.bR)],
 .dict [(di,.str kz),(fh,.str jJ),(ju,.str gA),(uf,.str ue),(fJ,.str kz),(o8,.str jJ),(lB,.str lW),(MK,.str xN),(ML,.str xN),(ug,.str gR)],
 .dict [(di,.bool true),(fh,.bR),(ju,.bR),(uf,.bR),(fJ,.bool true),(o8,.bR),(lB,.bool true),(ug,.bR)],
 .dict [(di,.ref 7),(fJ,.ref 10)],
 .dict [(fh,.bR),(ju,.bR),(o8,.bR),(lB,.tup [.tup [],.tup []])],
 .own,.obj 482 [(rQ,.ref 8),(yN,.bR),(pE,.bR)],.dict [(fh,.bR),(ju,.bR),(fJ,.str fJ)],
 .own,.obj 482 [(rQ,.ref 11),(yN,.bR),(pE,.bR)],.dict [(B4,.bR),(o5,.str lB)]]
noncomputable def gens (t:Bool):O:=.hl (match t with|true=>[.str cM]|false=>[])
noncomputable def yh(r:Bool)(l:List O):List O:=match r with|true=>.str lC::l|false=>l
noncomputable def pp0 (r t:Bool):Bool:=fj (bE r t 2) λx=>gb (fi 10 (.glob 233) [x.t] [] []) (.bool true)
noncomputable def Dz (r t:Bool) (l:List O):Bool:=fj (bE r t 2) λx=>gb (fi 10 (.glob 163) [x.t,.tup (yh r l),.int 0] [] []) .none
noncomputable def pp2 (r t:Bool):Bool:=fj (bE r t 2) λx=>gb (fi 10 (.glob 115) [x.t,.ck 136 .bR] [] []) x.t
noncomputable def pp3 (r t:Bool):Bool:=fj (bE r t 2) λx=>gb (fi 10 (.glob 110) [x.t] [] []) (.hl x.g)
noncomputable def pp4 (r t:Bool):Bool:=fj (bE r t 2) λx=>gb (fi 10 (.glob 267) [x.t,.bY 3 [(1,0)]] [.cell (some (.ref 1)),dA r] []) x.e
noncomputable def pp5 (r t:Bool):Bool:=fj (bE r t 2) λx=>gb (fi 10 (.glob 262) [x.e,.ref 0] [dT t] []) x.e
noncomputable def Ot (r t:Bool) (a:O):Bool:=fj (bE r t 2) λx=>gb (fi 18 (.glob 228) [.ref 1,a,gens t,.bR,x.w] lM []) x.p
noncomputable def pc0:Bool:=fj gI λx=>gb (fi 10 (.glob 233) [x.p] [] []) (.bool true)
noncomputable def pc1:Bool:=fj gI λx=>gb (fi 10 (.glob 163) [x.t,.tup [],.int 0] [] []) .none
noncomputable def pc2:Bool:=fj gI λx=>gb (fi 10 (.glob 115) [x.p,.bY 1 []] [] []) x.t
noncomputable def pc6:Bool:=fj gI λx=>gb (fi 18 (.glob 228) [.ref 1,.str di,gens false,.bR,x.w] lM []) x.p
theorem ok0:∀ r t,pp0 r t=true:=by intro r t;induction r using aee<;>induction t using aee<;>kernel_rfl
theorem ado:∀ r t,Dz r t []=true:=by intro r t;induction r using aee<;>induction t using aee<;>kernel_rfl
theorem adp:∀ r t,Dz r t [.str h9]=true:=by intro r t;induction r using aee<;>induction t using aee<;>kernel_rfl
theorem adq:∀ r t,Dz r t [.str h9,.str Ca]=true:=by intro r t;induction r using aee<;>induction t using aee<;>kernel_rfl
theorem C2:∀ r t,pp2 r t=true:=by intro r t;induction r using aee<;>induction t using aee<;>kernel_rfl
theorem ok3:∀ r t,pp3 r t=true:=by intro r t;induction r using aee<;>induction t using aee<;>kernel_rfl
theorem ok4:∀ r t,pp4 r t=true:=by intro r t;induction r using aee<;>induction t using aee<;>kernel_rfl
theorem ok5:∀ r t,pp5 r t=true:=by intro r t;induction r using aee<;>induction t using aee<;>kernel_rfl
theorem ads:∀ r t,Ot r t (.str di)=true:=by intro r t;induction r using aee<;>induction t using aee<;>kernel_rfl
theorem adt:∀ r t,Ot r t (.str fJ)=true:=by intro r t;induction r using aee<;>induction t using aee<;>kernel_rfl
theorem oc0:pc0=true:=by kernel_rfl
theorem oc1:pc1=true:=by kernel_rfl
theorem oc2:pc2=true:=by kernel_rfl
theorem oc6:pc6=true:=by kernel_rfl
section
structure Dm where
 r:Bool
 t:Bool
 nf:Nat
 lo:Bool
 sf:Nat
noncomputable def iX(n:Nat):Str:=match n with
 |0=>kh
 |1=>s0
 |_=>s8
noncomputable def AA (r t:Bool):O:=.tup [.str s4,.str fh,.tup (match r with|true=>[.str lC]|false=>[]),.tup (match t with|true=>[.tup [.str fu,.str cM]]|false=>[])]
noncomputable def Bb:O:=.tup [.str fu,.str kx]
noncomputable def yi(g:O)(a:Nat)(b:O):O:=match a with
 |0=>b
 |1=>.tup [.str s0,g,.bool false,b]
 |_=>.tup [.str s0,g,.bool true,b]
noncomputable def g8 (r t:Bool) (k a:Nat):O:=match k with
 |0=>yi .none a Bb
 |1=>yi (.str h9) a Bb
 |2=>yi .none a (AA r t)
 |3=>yi (.str h9) a (AA r t)
 |4=>(match a with|0=>.str h9|_=>.str Ca)
 |_=>.none
noncomputable def yR(a:Dm)(k:Nat):O:=match aem k 5 with
 |true=>.bool a.lo
 |false=>g8 a.r a.t k a.sf
noncomputable def yS (tok:Nat->Fm)(bl:Nat->Bool)(a:Dm)(f k:Nat):O:=match f with
 |0=>(tok k).w
 |1=>(tok k).t
 |2=>.hl (tok k).g
 |3=>(tok k).e
 |4=>(tok k).p
 |5=>.str (iX a.sf)
 |7=>.bool (bl k)
 |20=>yR a k
 |_=>.none
structure gp(r t:Bool)(tok:Nat->Fm):Prop where
 all:∀ k,k≠9->tok k∈bE r t 2
 c:tok 9∈gI
variable{prog:ae0}{w:afh}{sl:KX}{tok:Nat->Fm}{bl:Nat->Bool}{dm:Dm}{cond:Nat->Bool}{src:List (aep×List aec)}{os:afn}
noncomputable abbrev ba (prog:ae0) (w:afh) (sl:KX) (tok:Nat->Fm) (bl:Nat->Bool) (dm:Dm) (cond:Nat->Bool) (src:List (aep×List aec)) (os:afn):Wd:=jL prog w sl (yS tok bl dm) cond src os
theorem qy:∀ {a b:O},bz n a b=true->mA π n a b=true:=by
 induction n with
 |zero=>exact λh=>nomatch h
 |succ n d=>
  have c:∀ {l r:List O},mL (bz n) l r=true->mL (mA π n) l r=true:=by
   intro l;induction l with
   |nil=>intro r h;exact h
   |cons a l e=>
    intro r h;refine aH (me h) ?_;intro b i w f g;subst w;exact ad9.mpr ⟨d f,e g⟩
  intro a b h;induction a using O.casesOn with
  |tup l=>refine Y (dO h nofun) ?_;clear h;intro r w h;subst w;exact c h
  |hl l=>refine Y (sq h nofun) ?_;clear h;intro r w h;subst w;exact c h
  |none=>exact h
  |bool x=>exact h
  |int x=>exact h
  |str x=>exact h
  |_=>exact aX h
theorem aP.less (h:aP c n A) (a:m<=n):aP c m A:=⟨h.frames,aev (agA (Nat.mul_le_mul_left _ a) _) h.depth,aev (agA (Nat.mul_le_mul_left _ a) _) h.units,h.handled⟩
theorem sm{c:Cx (ba prog w sl tok bl dm cond src os)}(e:ak c) (g:aP c n A) (h:m<=n) (R:SR c σ s α N) (j:π.Nodup) (k:∀ i∈π,i<σ.n) (l:π.length=l₀.length) (o:l₀.length<=1024) (p:lT π 8 σ.st l₀ 0=true) (q:mA π 16 f₀ f=true) (t:mL (mA π 16) args₀ args=true) (b:gb (fi m f₀ args₀ l₀ []) r=true) (u:VR (ba prog w sl tok bl dm cond src os).kt α N x f) (y:ah (ba prog w sl tok bl dm cond src os).kt α N vals args){Q:aec->aeg->Prop}{E}(z:∀ v d a,SR c σ d α a->bh σ α N σ α a->VR (ba prog w sl tok bl dm cond src os).kt α a v r->Q v d) (B:A5 l₀=true:=by rfl):WP (ba prog w sl tok bl dm cond src os) A (afc x vals) Q E s:=by
 refine ae (Xk b) ?_;clear b;intro C D;exact Rp (zO mK mh m) e (g.less h) R j k l o p q t D (λF=>TL.trans C) u y z B
noncomputable def ppD (r t:Bool):Bool:=fj (bE r t 2) λx=>and (and (bz 16 x.t x.t) (bz 16 x.e x.e)) (and (bz 16 x.p x.t) (bz 16 x.w x.w))
noncomputable def pcD:Bool:=fj gI λx=>and (and (bz 16 x.t x.t) (bz 16 x.e x.e)) (and (bz 16 x.p x.p) (bz 16 x.w x.w))
theorem yT:∀ r t,ppD r t=true:=by intro r t;induction r using aee<;>induction t using aee<;>kernel_rfl
theorem DA:pcD=true:=by kernel_rfl
section
variable{r t:Bool}{k:Nat}(H:gp r t tok)(hk:k≠9)
include H hk
theorem pa:mA π 16 (tok k).t (tok k).t=true:=by
 exact qy (ad9.mp (ad9.mp (dD (yT r t) _ (H.all k hk))).1).1
theorem yj:mA π 16 (tok k).e (tok k).e=true:=by
 exact qy (ad9.mp (ad9.mp (dD (yT r t) _ (H.all k hk))).1).2
theorem adu:(tok k).p=(tok k).t:=by
 exact (eK (ad9.mp (ad9.mp (dD (yT r t) _ (H.all k hk))).2).1).1
theorem MY:mA π 16 (tok k).w (tok k).w=true:=by
 exact qy (ad9.mp (ad9.mp (dD (yT r t) _ (H.all k hk))).2).2
end
section
variable{r t:Bool}(H:gp r t tok)
include H
theorem adv:mA π 16 (tok 9).t (tok 9).t=true:=by
 exact qy (ad9.mp (ad9.mp (dD DA _ H.c)).1).1
theorem MZ:mA π 16 (tok 9).p (tok 9).p=true:=by
 exact qy (ad9.mp (ad9.mp (dD DA _ H.c)).2).1
theorem adw:mA π 16 (tok 9).w (tok 9).w=true:=by
 exact qy (ad9.mp (ad9.mp (dD DA _ H.c)).2).2
end
theorem iq (h:mA π 16 a b=true):mL (mA π 16) [a] [b]=true:=ad9.mpr ⟨h,rfl⟩
theorem eV (h:mA π 16 a b=true) (h':mL (mA π 16) l r=true):mL (mA π 16) (a::l) (b::r)=true:=ad9.mpr ⟨h,h'⟩
theorem hX (h:VR T α N v (.ty f k)):VR T α N v (T.θ f k):=h.inv
noncomputable def n9 (k:Nat):Bool:=not (aem k (nat_lit 9))
theorem Ry{b:Type}{z y₀:b}{f:aep->O->b}(h:vT z a f=y₀):z=y₀\/∃ x v,a=.ck x v/\f x v=y₀:=by
 by_cases w:y₀=z
 ·exact .inl w.symm
 ·exact .inr (Ed h w)
noncomputable def uM{a b:Type}(z:a) (l:List b) (f:b->a):a:=aet (motive:=λw=>a) l z λx r=>j7 z r (f x)
theorem Xl{b c:Type}{z y₀:b}{l:List c}{f:c->b}(h:uM z l f=y₀) (a:y₀≠z):∃ x,l=[x]/\f x=y₀:=by
 induction l using aet with
 |nil=>exact absurd h.symm a
 |cons x r=>refine ae (kK h a) ?_;clear h a;intro w h;subst w;exact (ay x rfl h)
noncomputable def jA (n:Nat) (args:List O):Option O:=iR none args λa=>iK none a λf k=>aN none (and (aeQ (nat_lit 10) n) (or (and (aem f (nat_lit 1)) (n9 k)) (and (aem f (nat_lit 4)) (aem k (nat_lit 9))))) (some (.bool true))
noncomputable def rD (r:Bool) (n:Nat) (args:List O):Option O:=gf none args λa l=>lP none l λkn z=>iK none a λf k=>dR none z λi=>aN none
 (and (and (aeQ (nat_lit 10) n) (decide (i=0))) (and (aem f (nat_lit 1)) (or (and (n9 k) (or (bz (nat_lit 4) (.tup (yh r [])) kn) (or (bz (nat_lit 4) (.tup (yh r [.str h9])) kn) (bz (nat_lit 4) (.tup (yh r [.str h9,.str Ca])) kn)))) (and (aem k (nat_lit 9)) (bz (nat_lit 4) (.tup []) kn))))) (some .none)
noncomputable def jy (n:Nat) (args:List O):Option O:=lP none args λa b=>iK none a λf k=>vT (wc none b λi w=>j7 none w (aN none (and (aeQ (nat_lit 10) n) (and (and (aem f (nat_lit 4)) (aem k (nat_lit 9))) (aem i (nat_lit 1)))) (some (.ty (nat_lit 1) (nat_lit 9))))) b
 λg c=>aN none (and (aeQ (nat_lit 10) n) (and (and (aem f (nat_lit 1)) (n9 k)) (aem g (nat_lit 136)))) (some (.ty (nat_lit 1) k))
noncomputable def Ou (n:Nat) (args:List O):Option O:=iR none args λa=>iK none a λf k=>aN none (and (aeQ (nat_lit 10) n) (and (aem f (nat_lit 1)) (n9 k))) (some (.ty (nat_lit 2) k))
noncomputable def Ov (r:Bool) (n:Nat) (args:List O) (σ:LS):Option O:=lP none args λa b=>iK none a λf k=>wc none b λi d=>uM none d λc=>aD none (σ.st.get c.2) λo=>p8 none o λv=>aD none v λw=>jf none w λq=>
 aN none (and (and (and (aeQ (nat_lit 10) n) (and (afl c.2 σ.n) (afl q σ.n))) (and (and (aem f (nat_lit 1)) (n9 k)) (and (aem i (nat_lit 3)) (and (aem c.1 (nat_lit 1)) (not (aem c.2 q)))))) (lT [c.2,q] (nat_lit 8) σ.st [.cell (some (.ref (nat_lit 1))),dA r] (nat_lit 0))) (some (.ty (nat_lit 3) k))
noncomputable def Ow (t:Bool) (n:Nat) (args:List O) (σ:LS):Option O:=lP none args λa b=>iK none a λf k=>jf none b λp=>aN none (and (and (and (aeQ (nat_lit 10) n) (afl p σ.n)) (and (aem f (nat_lit 3)) (n9 k))) (lT [p] (nat_lit 8) σ.st [dT t] (nat_lit 0))) (some (.ty (nat_lit 3) k))
noncomputable def cU (o:Option O):Nat:=match o with
 |some (.ref i)=>i
 |_=>nat_lit 0
noncomputable def agm (st:Tr)(i:Nat):List (Str×O):=match st.get i with
 |some (.obj a w)=>w
 |some (.dict w)=>w
 |_=>[]
noncomputable def jO (st:Tr)(c:Nat):List Nat:=
 let w:=cU (bw nG (agm st c));let a:=cU (bw di (agm st w));let b:=cU (bw fJ (agm st w));[agf c,c,cU (bw ip (agm st c)),cU (bw nF (agm st c)),w,cU (bw pA (agm st c)),agf a,a,cU (bw rQ (agm st a)),agf b,b,cU (bw rQ (agm st b))]
noncomputable def Lf (n:Nat) (l:List Nat):Bool:=aeC true (λa b w=>and (afl a n) w) l
noncomputable def xM (l:List Nat):Bool:=aeC true (λa l w=>and (not (cL a l)) w) l
noncomputable def Ox (t:Bool) (n:Nat) (args:List O) (σ:LS):Option O:=gf none args λa r=>jf none a λw=>gf none r λb r=>gf none r λc r=>gf none r λd r=>iR none r λx=>iK none x λf k=>
 aN none (and (and (aeQ (nat_lit 18) n) (aem f (nat_lit 0))) (and (d.sure) (and (and (Lf σ.n (jO σ.st w)) (xM (jO σ.st w))) (lT (jO σ.st w) (nat_lit 8) σ.st lM (nat_lit 0))))) (aen (motive:=λe=>Option O) (aN none (and (bz (nat_lit 2) (.str di) b) (bz (nat_lit 4) (gens false) c)) (some (.ty (nat_lit 4) k))) (aN none (and (or (bz (nat_lit 2) (.str di) b) (bz (nat_lit 2) (.str fJ) b)) (bz (nat_lit 4) (gens t) c)) (some (.ty (nat_lit 1) k))) (n9 k))
noncomputable def yU:List (Nat×Nat):=[(233,0),(163,1),(115,2),(110,3),(267,4),(262,5),(228,6)]
noncomputable def tI(r t:Bool)(n:Nat)(f:O)(args:List O)(σ:LS):Option O:=match f with
 |.glob a=>(match lk a yU with
  |none=>none
  |some 0=>jA n args
  |some 1=>rD r n args
  |some 2=>jy n args
  |some 3=>Ou n args
  |some 4=>Ov r n args σ
  |some 5=>Ow t n args σ
  |some 6=>Ox t n args σ
  |_=>none)
 |_=>none
end
section
variable{prog:ae0}{w:afh}{sl:KX}{tok:Nat->Fm}{bl:Nat->Bool}{dm:Dm}{cond:Nat->Bool}{src:List (aep×List aec)}{os:afn}
theorem mP(h:n9 k=true):k≠9:=λe=>by subst e;exact aX h
theorem aaU(h:n9 k=false):k=9:=by
 unfold n9 at h;induction q:aem k 9 using aee with
 |true=>exact aed q
 |false=>rw[q]at h;exact gr h
section
variable{c:Cx (ba prog w sl tok bl dm cond src os)}{A:aeX}{n m:Nat}{σ:LS}{s:aeg}{α:List aep}{N:Led}{fv:aec}{vals:List aec}{Q:aec->aeg->Prop}{E:aec->aeg->Prop}
theorem adx (p q:Nat):mA [p,q] 16 (.bY 3 [(1,0)]) (.bY 3 [(1,p)])=true:=by
 show and true (and (and true (aem p p)) true)=true;rw [afz];rfl
theorem ady (p:Nat):mA [p] 16 (.ref 0) (.ref p)=true:=by
 show mI [p] 0 p=true;exact afz p
theorem kH (e:ak c) (f:aP c n A) (g:m<=n) (R:SR c σ s α N) (i:mL (mA [] 16) args₀ args=true) (j:gb (fi m (.glob a) args₀ [] []) r=true) (k:VR (ba prog w sl tok bl dm cond src os).kt α N fv (.glob a)) (l:ah (ba prog w sl tok bl dm cond src os).kt α N vals args) (o:∀ v d b,SR c σ d α b->bh σ α N σ α b->VR (ba prog w sl tok bl dm cond src os).kt α b v r->Q v d):WP (ba prog w sl tok bl dm cond src os) A (afc fv vals) Q E s:=
 sm e f g R (π:=[]) (l₀:=[]) .nil (λp h=>by cases h) rfl (afa _) rfl (show mA [] 16 (.glob a) (.glob a)=true from afz a) i j k l o
variable{r t:Bool}(H:gp r t tok)
include H
noncomputable abbrev m8 (c:Cx (ba prog w sl tok bl dm cond src os))(σ:LS)(α:List aep)(N:Led)(a:O)(Q:aec->aeg->Prop):Prop:=∀ v n m,SR c σ n α m->bh σ α N σ α m->VR (ba prog w sl tok bl dm cond src os).kt α m v a->Q v n
theorem Xm (i:ak c) (j:aP c n A) (R:SR c σ s α N) (h:jA n args=some a) (l:VR (ba prog w sl tok bl dm cond src os).kt α N fv (.glob 233)) (o:ah (ba prog w sl tok bl dm cond src os).kt α N vals args) (p:m8 c σ α N a Q):WP (ba prog w sl tok bl dm cond src os) A (afc fv vals) Q E s:=by
 replace h:=jb h aO;refine Y h ?_;clear h;intro u b h;subst b;replace h:=jW h aO;refine be h ?_;clear h;intro f k b h;subst b;refine ae (aS h aO) ?_;clear h;intro m h;have b:=aea h;subst a;refine ae (ad9.mp m) ?_;clear m;intro d m;have d:=aei d;refine Y (kS o rfl) ?_;clear o;intro v b q;subst b;rcases (afK _ _).mp m with m|m
 ·refine ae (ad9.mp m) λe g=>?_
  obtain rfl:=aed e;have hk:=mP g;exact kH i j d R (iq (pa H hk)) (dD (ok0 r t) _ (H.all k hk)) l (.cons (hX q) .nil) p
 ·refine ae (ad9.mp m) ?_;clear m;intro e g;obtain rfl:=aed e;obtain rfl:=aed g;exact kH i j d R (iq (MZ H)) (dD oc0 _ H.c) l (.cons (hX q) .nil) p
theorem Xn (g:ak c) (j:aP c n A) (R:SR c σ s α N) (h:rD r n args=some a) (o:VR (ba prog w sl tok bl dm cond src os).kt α N fv (.glob 163)) (B:ah (ba prog w sl tok bl dm cond src os).kt α N vals args) (p:m8 c σ α N a Q):WP (ba prog w sl tok bl dm cond src os) A (afc fv vals) Q E s:=by
 replace h:=g9 h aO;refine be h ?_;clear h;intro M l b h;subst b;replace h:=ml h aO;refine be h ?_;clear h;intro kn z b h;subst b;replace h:=jW h aO;refine be h ?_;clear h;intro f k b h;subst b;replace h:=jT h aO;refine Y h ?_;clear h;intro i b h;subst b;refine ae (aS h aO) ?_;clear h;intro C h;have b:=aea h;subst a;refine ae (ad9.mp C) ?_;clear C;intro D F;refine ae (ad9.mp D) ?_;clear D;intro d G;refine ae (ad9.mp F) ?_;clear F;intro I L;have d:=aei d;obtain rfl:=of_decide_eq_true G;obtain rfl:=aed I;have q:mA [] 16 (.int 0) (.int 0)=true:=rfl;refine aH (B.cj rfl) ?_;clear B;intro P S b u v;subst b;rcases (afK _ _).mp L with x|x
 ·refine ae (ad9.mp x) λy m=>?_
  have hk:=mP y;rcases (afK _ _).mp m with m|m
  ·have e:=(eK m).1;subst e;exact kH g j d R (eV (pa H hk) (eV (by induction r using aee<;>rfl) (iq q))) (dD (ado r t) _ (H.all k hk)) o (.cons (hX u) v) p
  ·rcases (afK _ _).mp m with m|m
   ·have e:=(eK m).1;subst e;exact kH g j d R (eV (pa H hk) (eV (by induction r using aee<;>rfl) (iq q))) (dD (adp r t) _ (H.all k hk)) o (.cons (hX u) v) p
   ·have e:=(eK m).1;subst e;exact kH g j d R (eV (pa H hk) (eV (by induction r using aee<;>rfl) (iq q))) (dD (adq r t) _ (H.all k hk)) o (.cons (hX u) v) p
 ·refine ae (ad9.mp x) ?_;clear x;intro y m;obtain rfl:=aed y;have e:=(eK m).1;subst e;exact kH g j d R (eV (adv H) (eV rfl (iq q))) (dD oc1 _ H.c) o (.cons (hX u) v) p
theorem Xo (M:ak c) (P:aP c n A) (R:SR c σ s α N) (h:jy n args=some a) (S:VR (ba prog w sl tok bl dm cond src os).kt α N fv (.glob 115)) (i:ah (ba prog w sl tok bl dm cond src os).kt α N vals args) (T:m8 c σ α N a Q):WP (ba prog w sl tok bl dm cond src os) A (afc fv vals) Q E s:=by
 replace h:=ml h aO;refine be h ?_;clear h;intro a0 b0 m e;subst m;replace e:=jW e aO;refine be e ?_;clear e;intro qa k m V;subst m;rcases Ry V with d|⟨qb,x,rfl,d⟩
 ·replace d:=zB d aO;refine be d ?_;clear d;intro qc aK m f;subst m;replace f:=kK f aO;refine ae f ?_;clear f;intro m W;subst m;refine ae (aS W aO) λj l=>?_
  have m:=aea l;subst a;refine ae (ad9.mp j) λb o=>?_
  refine ae (ad9.mp o) λp u=>?_
  refine ae (ad9.mp p) λy z=>?_
  have b:=aei b;obtain rfl:=aed y;obtain rfl:=aed z;obtain rfl:=aed u;refine aH (i.cj rfl) ?_;intro X vs m B g;subst m;exact kH M P b R (args₀:=[(tok 9).p,.bY 1 []]) (eV (MZ H) rfl) (dD oc2 _ H.c) S (.cons (hX B) g) λv C D F G I=>T v C D F G (.ty I)
 ·refine ae (aS d aO) λj l=>?_
  have m:=aea l;subst a;refine ae (ad9.mp j) λb o=>?_
  refine ae (ad9.mp o) λp u=>?_
  refine ae (ad9.mp p) λy z=>?_
  have b:=aei b;obtain rfl:=aed y;obtain rfl:=aed u;have hk:=mP z;refine aH (jV i rfl) ?_;clear i;intro X v2 m B g;subst m;refine eI g.inv λL L qd L L q=>?_
  have Z:x.sure=true:=i6 q;exact kH M P b R (args:=[(tok k).t,.ck 136 x]) (args₀:=[(tok k).t,.ck 136 .bR]) (eV (pa H hk) (iq (show and (aem 136 136) (mA [] 15 .bR x)=true from Z))) (dD (C2 r t) _ (H.all k hk)) S (.cons (hX B) (.cons g .nil)) λv C D F G I=>T v C D F G (.ty I)
theorem Xp (l:ak c) (o:aP c n A) (R:SR c σ s α N) (h:Ou n args=some a) (p:VR (ba prog w sl tok bl dm cond src os).kt α N fv (.glob 110)) (e:ah (ba prog w sl tok bl dm cond src os).kt α N vals args) (q:m8 c σ α N a Q):WP (ba prog w sl tok bl dm cond src os) A (afc fv vals) Q E s:=by
 replace h:=jb h aO;refine Y h ?_;clear h;intro I m b;subst m;replace b:=jW b aO;refine be b ?_;clear b;intro f k m g;subst m;refine ae (aS g aO) ?_;clear g;intro i u;have m:=aea u;subst a;refine ae (ad9.mp i) ?_;clear i;intro d j;refine ae (ad9.mp j) ?_;clear j;intro x y;have d:=aei d;obtain rfl:=aed x;have hk:=mP y;refine Y (kS e rfl) ?_;clear e;intro v m z;subst m;exact kH l o d R (iq (pa H hk)) (dD (ok3 r t) _ (H.all k hk)) p (.cons (hX z) .nil) λv B C D F G=>q v B C D F (.ty G)
theorem Xq (u:ak c) (y:aP c n A) (R:SR c σ s α N) (h:Ov r n args σ=some a) (z:VR (ba prog w sl tok bl dm cond src os).kt α N fv (.glob 267)) (l:ah (ba prog w sl tok bl dm cond src os).kt α N vals args) (B:m8 c σ α N a Q):WP (ba prog w sl tok bl dm cond src os) A (afc fv vals) Q E s:=by
 replace h:=ml h aO;refine be h ?_;clear h;intro a0 b0 m b;subst m;replace b:=jW b aO;refine be b ?_;clear b;intro qc k m d;subst m;replace d:=zB d aO;refine be d ?_;clear d;intro qd aK m e;subst m;replace e:=Xl e aO;refine Y e ?_;clear e;intro m C;subst C;intro D;obtain ⟨x,p⟩:=m;refine Y (aR D aO) λqe hg f=>?_
 replace f:=vl f aO;refine Y f ?_;clear f;intro v m g;subst m;replace g:=aR g aO;refine Y g ?_;clear g;intro w' m i;subst m;replace i:=i0 i aO;refine Y i ?_;clear i;intro q m F;subst m;refine ae (aS F aO) λG I=>?_
 have m:=aea I;subst a;refine ae (ad9.mp G) λL M=>?_
 refine ae (ad9.mp L) λP S=>?_
 refine ae (ad9.mp P) λj T=>?_
 refine ae (ad9.mp T) λV W=>?_
 refine ae (ad9.mp S) λX Z=>?_
 refine ae (ad9.mp X) λw1 w2=>?_
 refine ae (ad9.mp Z) λw3 hb6=>?_
 refine ae (ad9.mp hb6) λw4 o=>?_
 have j:=aei j;obtain rfl:=aed w1;obtain rfl:=aed w3;obtain rfl:x=1:=aed w4;have hk:=mP w2;have eS:p≠q:=λqa=>by subst qa;rw [show aem p p=true from afz p] at o;exact aX o
 refine aH (l.cj rfl) ?_;clear l;intro v1 vs m CJ CK;subst m;exact sm u y j R (π:=[p,q]) (l₀:=[.cell (some (.ref 1)),dA r]) (aeU.mpr ⟨λqb=>eS (ael.mp qb),ae5 _ _⟩) (eU (aei V) (rG (aei W))) rfl (show 2<=1024 by decide) M (show mA [p,q] 16 (.glob 267) (.glob 267)=true from rfl) (args₀:=[(tok k).t,.bY 3 [(1,0)]]) (eV (pa H hk) (iq (adx p q))) (dD (ok4 r t) _ (H.all k hk)) z (.cons (hX CJ) CK) λv s' N' R' g' h'=>B v s' N' R' g' (.ty h')
theorem Xr (u:ak c) (x:aP c n A) (R:SR c σ s α N) (h:Ow t n args σ=some a) (y:VR (ba prog w sl tok bl dm cond src os).kt α N fv (.glob 262)) (g:ah (ba prog w sl tok bl dm cond src os).kt α N vals args) (z:m8 c σ α N a Q):WP (ba prog w sl tok bl dm cond src os) A (afc fv vals) Q E s:=by
 replace h:=ml h aO;refine be h ?_;clear h;intro W X m b;subst m;replace b:=jW b aO;refine be b ?_;clear b;intro f k m d;subst m;replace d:=i0 d aO;refine Y d ?_;clear d;intro p m i;subst m;refine ae (aS i aO) ?_;clear i;intro j B;have m:=aea B;subst a;refine ae (ad9.mp j) ?_;clear j;intro l C;refine ae (ad9.mp l) ?_;clear l;intro o q;refine ae (ad9.mp o) ?_;clear o;intro e D;refine ae (ad9.mp q) ?_;clear q;intro F G;have e:=aei e;obtain rfl:=aed F;have hk:=mP G;refine aH (g.cj rfl) ?_;clear g;intro Z vs m I L;subst m;exact sm u x e R (π:=[p]) (l₀:=[dT t]) (ae5 _ _) (rG (aei D)) rfl (show 1<=1024 by decide) C (show mA [p] 16 (.glob 262) (.glob 262)=true from rfl) (args₀:=[(tok k).e,.ref 0]) (eV (yj H hk) (iq (ady p))) (dD (ok5 r t) _ (H.all k hk)) y (.cons (hX I) L) λv M P S T V=>z v M P S T (.ty V)
end
theorem TM:Lf n l=true->∀ i∈l,i<n:=by
 induction l with
 |nil=>exact λw w h=>nomatch h
 |cons a l b=> intro h;refine ae (ad9.mp h) ?_;clear h;intro c d;exact eU (aei c) (b d)
theorem VH:xM l=true->l.Nodup:=by
 induction l with
 |nil=>exact λd=>.nil
 |cons a l w=> intro h;refine ae (ad9.mp h) ?_;clear h;intro b c;exact aeU.mpr ⟨iy ((aeK _).mp b),w c⟩
end
section
section
variable{W:Wd}{c:Cx W}{A:aeX}{d:Nat}
theorem SR.settle (R:SR c σ s α N) (hL:∀ i,T<=i->i<σ.n->i∈L\/i=o\/i=d) (j:SR c r s' bG t) (g:bh ⟨σ.loc,σ.aK,σ.st,σ.n,σ.n,L++σ.mark⟩ α N r bG t) (eT:T<=r.lo)
  (I:r.st.get o=some (.list u)) (M:r.st.get d=some (.list w)) (d1:kW u=true) (d2:kW w=true) (lto:o<σ.n) (V:d<σ.n) (no:o∉σ.mark) (nd:d∉σ.mark):
  SR c ((σ.put o (.list u)).put d (.list w)) s' α t/\bh σ α N ((σ.put o (.list u)).put d (.list w)) α t:=by
 have p:=g.ge.pre
 have P:∀ i,i<σ.n->i<r.n:=λi h=>aej h g.n
 have Q:∀ i,i<σ.n->i<α.length:=λi h=>by rw[R.len];exact h
 have X:∀ i,i<σ.n->((σ.put o (.list u)).put d (.list w)).st.get i=if i=d then some (.list w) else if i=o then some (.list u) else σ.st.get i:=λi hi=>by
  have e1:((σ.put o (.list u)).put d (.list w)).st.get i=if i=d then some (.list w) else (σ.put o (.list u)).st.get i:=
   get_set R.wf.set (aej V R.bD) (aej hi R.bD)
  rw[e1,kN R lto hi]
 have oH:∀ i,i<σ.n->i≠o->i≠d->r.st.get i=σ.st.get i:=λi hi I M=>by
  by_cases q:i<T
  ·exact g.same i (aej q eT)
  ·rcases hL i (Nat.le_of_not_lt q) hi with h|h|h
   ·exact (g.bf i (aef _ h)).1
   ·exact absurd h I
   ·exact absurd h M
 have ge:Ge α N α t:=⟨afA _,g.ge.keep,λu_ h=>.inl h,g.ge.tab⟩
 have dat:∀ {S:List aec}{l:List O},ah W.kt bG t S l->kW l=true->ah W.kt α t S l:=λh q=>h.data (λp' A f=>⟨A,λqb=>f (p.subset qb)⟩) q
 refine ⟨⟨?_,R.aK,j.news,j.nodup,R.inj,λi ob hi e=>?_,λa h=>j.all a (p.subset h),j.hi,R.wf.set.set,R.bD,R.len,aev iz (aev iz R.low),R.bt,j.gens,j.os,j.aZ⟩,⟨⟨ge,aev iz iz,λi hi=>?_,aeu _,rfl,λi a ob hi A f nt=>?_,λi hi=>⟨?_,λa ob A f=>(g.bf i (aek _ hi)).2 a ob A f⟩⟩,rfl⟩⟩
 ·refine Y j.fr λqa qc y=>?_
  refine Y R.fr λBB abr z=>?_
  refine (ay qa qc ?_)
  have hl:r.loc=σ.loc:=g.loc
  rw[hl]at y
  show NR c σ.loc α t qa
  unfold NR at y z ⊢
  induction q:c.comp using aer with
  |none=>
   rw[q]at y z
   intro n v e
   refine cg (y n v e) λx k val A f m=>?_
   refine cg (z n v e) λx' k' adz yB Oy B=>?_
   exact ⟨x,k,val,A,f,B.cut p m⟩
  |some pr=>
   obtain ⟨qd,mf⟩:=pr
   rw[q]at y z
   refine kL y ?_;clear y;intro e ob m₂ A f m
   refine kL z ?_;clear z;intro e' ob' X2 yB Oy B
   refine (nM e ob m₂ A f (λn v e=>?_))
   refine cg (m n v e) ?_;clear m;intro x k val A f m
   refine cg (B n v e) ?_;clear B;intro x' k' adz yB Oy B
   exact (dx x k val A f (B.cut p m))
 ·have hi:i<σ.n:=hi
  rw[X i hi]at e
  by_cases C:i=d
  ·rw[if_pos C]at e
   have D:=aea e;clear e;subst ob
   subst C
   refine aH (j.obj i _ (P i hi) M) ?_;clear M;intro a b E F G
   refine be G.inv ?_;intro S n D Z;subst D
   exact (bB a _ (jc p E (Q i hi)) F (.list (dat Z d2)))
  ·rw[if_neg C]at e
   by_cases H:i=o
   ·rw[if_pos H]at e
    have D:=aea e;clear e;subst ob
    subst H
    refine aH (j.obj i _ (P i hi) I) ?_;clear I;intro a b E F G
    refine be G.inv ?_;intro S n D Z;subst D
    exact (bB a _ (jc p E (Q i hi)) F (.list (dat Z d1)))
   ·rw[if_neg H]at e
    refine aH (R.obj i ob hi e) λabn lu z1 z2 z3=>?_
    refine aH (j.obj i ob (P i hi) ((oH i hi H C).trans e)) ?_;clear j P oH H C;intro a b E F G
    exact (bB a b (jc p E (Q i hi)) F (z3.cut p (Q i hi) G))
 ·have A:i<d:=aej hi i9
  have f:i<o:=aej hi (aev iz i9)
  rw[X i (agk A V),if_neg (aeE A),if_neg (aeE f)]
 ·have m:i<d:=aej hi i9
  have h4:i<o:=aej hi (aev iz i9)
  by_cases q:i<T
  ·exact g.obs i a ob (aej q eT) A f nt
  ·rcases hL i (Nat.le_of_not_lt q) (agk m V) with h|h|h
   ·exact (g.bf i (aef _ h)).2 a ob A f
   ·exact absurd h (aeE h4)
   ·exact absurd h (aeE m)
 ·rw[X i (R.bt i hi),if_neg (λe:i=d=>nd (e▸hi)),if_neg (λe:i=o=>no (e▸hi))]
end
theorem cons_inv (h:ah T α N vs (a::l))(c:a.sure=true):∃ v b,vs=v::b/\VR T α N v a/\ah T α N b l:=h.cj c
theorem Fh (h:mA π n a b=true):b.sure=true:=by
 rcases fD b with⟨c,v,rfl⟩|d
 ·exact (GJ h).elim
 ·exact (show b.sure=et b (λe e=>false) true by induction b using O.casesOn<;>rfl).trans (d _ _)
variable{prog:ae0}{w:afh}{sl:KX}{tok:Nat->Fm}{bl:Nat->Bool}{dm:Dm}{cond:Nat->Bool}{src:List (aep×List aec)}{os:afn}
theorem Xs{c:Cx (ba prog w sl tok bl dm cond src os)}{Q:aec->aeg->Prop}{E:aec->aeg->Prop}(H:gp r t tok)
  (hc:ak c) (hA:aP c n A) (R:SR c σ s α N){args a}(h:Ox t n args σ=some a) (hf:VR (ba prog w sl tok bl dm cond src os).kt α N L (.glob 228)) (d:ah (ba prog w sl tok bl dm cond src os).kt α N vals args) (M:m8 c σ α N a Q):WP (ba prog w sl tok bl dm cond src os) A (afc L vals) Q E s:=by
 refine be (g9 h aO) ?_;clear h;intro a0 r0 b m;subst b;refine Y (i0 m aO) ?_;clear m;intro e b P;subst b;refine be (g9 P aO) ?_;clear P;intro S r1 b T;subst b;refine be (g9 T aO) ?_;clear T;intro V r2 b W;subst b;refine be (g9 W aO) ?_;clear W;intro X r3 b Z;subst b;refine Y (jb Z aO) ?_;clear Z;intro x b h6;subst b;refine be (jW h6 aO) ?_;clear h6;intro qa k b h7;subst b;refine ae (aS h7 aO) ?_;clear h7;intro f h;simp only [ae4] at f;refine j4 f ?_;clear f;intro b u pn el;obtain⟨y,m⟩:=b;obtain⟨bN,iU⟩:=pn;have y:=aei y;obtain rfl:=aed m;have hmo:mA (jO σ.st e) 16 (.ref 1) (.ref e)=true:=by
  show mI (jO σ.st e) 1 e=true;exact afz e
 have hop:mA (jO σ.st e) 16 .bR X=true:=u;have run:∀ {B C x},mA (jO σ.st e) 16 B S=true->mA (jO σ.st e) 16 C V=true->mA (jO σ.st e) 16 x x=true->(ba prog w sl tok bl dm cond src os).kt.θ 0 k=x->∀ {z},gb (fi 18 (.glob 228) [.ref 1,B,C,.bR,x] lM []) z=true->(∀ v i g,SR c σ i α g->bh σ α N σ α g->VR (ba prog w sl tok bl dm cond src os).kt α g v z->Q v i)->WP (ba prog w sl tok bl dm cond src os) A (afc L vals) Q E s:=by
  intro B C x l j e3 e4 z e5 hq;refine aH (cons_inv d rfl) ?_;clear d;intro w1 o b v1 d;subst b;refine aH (cons_inv d (Fh l)) ?_;clear d;intro w2 o b v2 d;subst b;refine aH (cons_inv d (Fh j)) ?_;clear d;intro w3 o b v3 d;subst b;refine aH (cons_inv d u) ?_;clear d u;intro w4 o b v4 d;subst b;refine aH (cons_inv d rfl) ?_;clear d;intro w5 o b v5 d;subst b;have Oz:=hX v5;rw [e4] at Oz;exact sm hc hA y R (π:=jO σ.st e) (l₀:=lM) (VH iU) (TM bN) rfl (show 12<=1024 by decide) el (show mA (jO σ.st e) 16 (.glob 228) (.glob 228)=true from rfl)
   (args:=[.ref e,S,V,X,x]) (eV hmo (eV l (eV j (eV hop (iq e3))))) e5 hf (.cons v1 (.cons v2 (.cons v3 (.cons v4 (.cons Oz d))))) hq
 induction hk:n9 k using aee with
 |true=>
  rw [hk] at h;have hk:=mP hk;refine ae (aS h aO) ?_;clear h;intro f h;have b:=aea h;clear h;subst a;simp only [ae4,afK] at f;refine ae f ?_;clear f;intro D F;have fin:∀ v i g,SR c σ i α g->bh σ α N σ α g->VR (ba prog w sl tok bl dm cond src os).kt α g v (tok k).p->Q v i:=λv i g G I p=>M v i g G I (.ty (by rw [adu H hk] at p;exact p))
  have l:=(eK F).1;subst l;rcases D with q|q
  ·have j:=(eK q).1;subst j;exact run rfl (by induction t using aee<;>rfl) (MY H hk) rfl (dD (ads r t) _ (H.all k hk)) fin
  ·have j:=(eK q).1;subst j;exact run rfl (by induction t using aee<;>rfl) (MY H hk) rfl (dD (adt r t) _ (H.all k hk)) fin
 |false=>
  rw [hk] at h;obtain rfl:=aaU hk;refine ae (aS h aO) ?_;clear h;intro f h;have b:=aea h;clear h;subst a;simp only [ae4] at f;refine ae f ?_;clear f;intro D F;have l:=(eK F).1;subst l;have j:=(eK D).1;subst j;exact run rfl rfl (adw H) rfl (dD oc6 _ H.c) λv i g G I p=>M v i g G I (.ty p)
theorem Fi{c:Cx (ba prog w sl tok bl dm cond src os)}{Q:aec->aeg->Prop}{E:aec->aeg->Prop}(H:gp r t tok)
  (d:ak c) (g:aP c n A) (R:SR c σ s α N){f args a}(h:tI r t n f args σ=some a) (j:VR (ba prog w sl tok bl dm cond src os).kt α N m f) (k:ah (ba prog w sl tok bl dm cond src os).kt α N vals args) (l:m8 c σ α N a Q):WP (ba prog w sl tok bl dm cond src os) A (afc m vals) Q E s:=by
 unfold tI at h;split at h;rotate_left
 ·exact aT h
 rename_i b;have key:∀ i,lk b yU=some i->(b=233/\i=0)\/(b=163/\i=1)\/(b=115/\i=2)\/(b=110/\i=3)\/(b=267/\i=4)\/(b=262/\i=5)\/(b=228/\i=6):=by
  intro i e;have:=iA e;simp only[yU,aeq,aja,aha,or_false]at this;exact this
 induction e:lk b yU using aer with
 |none=>rw[e]at h;exact aT h
 |some i=>
  rw[e]at h;rcases key i e with⟨rfl,rfl⟩|⟨rfl,rfl⟩|⟨rfl,rfl⟩|⟨rfl,rfl⟩|⟨rfl,rfl⟩|⟨rfl,rfl⟩|⟨rfl,rfl⟩
  ·exact Xm H d g R h j k l
  ·exact Xn H d g R h j k l
  ·exact Xo H d g R h j k l
  ·exact Xp H d g R h j k l
  ·exact Xq H d g R h j k l
  ·exact Xr H d g R h j k l
  ·exact Xs H d g R h j k l
end
section
set_option backward.match.sparseCases true
noncomputable def qz:List O:=[gU,ar gU,tu gU,ar (ar gU),ar (tu gU),tu (ar gU),tu (tu gU)]
noncomputable def lH:List AO:=[.own,.obj 346 [(g6,.bR),(fw,.bR),(f9,.bR)]]
noncomputable def anyB (a:O) (l:List O):Bool:=aeC false (λb d c=>aen c true (bz (nat_lit 16) a b)) l
theorem Ga:∀ {l:List O},anyB a l=true->a∈l
 |[],h=>by exact aX h
 |b::l,h=>by
  have h':(aen (motive:=λc=>Bool) (anyB a l) true (bz 16 a b))=true:=h
  induction q:bz 16 a b using aee with
  |true=>rw[(eK q).1];exact .head _
  |false=>rw[q]at h';exact .tail _ (Ga h')
noncomputable def ppL (r t:Bool):Bool:=fj (bE r t 2) λx=>or (anyB x.e qz) (gb (fi 10 (.glob 336) [.ref 1,x.e] lH []) .none)
theorem adA:∀ r t,ppL r t=true:=by intro r t;induction r using aee<;>induction t using aee<;>kernel_rfl
noncomputable def yk (l:List O) (f:O->Bool):Bool:=aeC true (λx b a=>and (f x) a) l
theorem Gb{f:O->Bool}(h:yk l f=true):∀ x∈l,f x=true:=by
 induction l with
 |nil=>intro x b;cases b
 |cons a l d=>
  have c:and (f a) (yk l f)=true:=h;rw[ae4]at c;intro x b;rcases aeq.mp b with rfl|b
  ·exact c.1
  ·exact d c.2 x b
noncomputable def okN(x:Rs):Bool:=match x with
 |.ok .none=>true
 |_=>false
theorem GU(h:okN x=true):x=.ok .none:=by
 unfold okN at h;split at h
 ·rfl
 ·exact aX h
noncomputable def m9 (o d:Nat) (m:Nat):Nat->List Nat:=afX (motive:=λa=>Nat->List Nat) (λa=>[]) (λa b i=>aen (i::b (afb i)) (b (afb i)) (or (aem i o) (aem i d))) m
theorem VJ:∀ {i j:Nat},i<=j->j<i+m->j∈m9 o d m i\/j=o\/j=d:=by
 induction m with
 |zero=>intro i j a b;omega
 |succ m c=>
  intro i j a b;show j∈(aen (motive:=λf=>List Nat) (i::m9 o d m (afb i)) (m9 o d m (afb i)) (or (aem i o) (aem i d)))\/_
  by_cases q:j=i
  ·subst q;induction e:or (aem j o) (aem j d) using aee with
   |false=>exact .inl (.head _)
   |true=>
    rw[afK]at e;rcases e with e|e
    ·exact .inr (.inl (aed e))
    ·exact .inr (.inr (aed e))
  ·have:=c (i:=i+1) (j:=j) (by omega) (by omega)
   rcases this with h|h
   ·left;induction e:or (aem i o) (aem i d) using aee with
    |false=>exact .tail _ h
    |true=>exact h
   ·exact .inr h
theorem VK:∀ {i j:Nat},j∈m9 o d m i->j<i+m:=by
 induction m with
 |zero=>intro i j h;exact absurd h aha
 |succ m b=>
  intro i j h;have a:j∈(aen (motive:=λc=>List Nat) (i::m9 o d m (afb i)) (m9 o d m (afb i)) (or (aem i o) (aem i d))):=h
  induction e:or (aem i o) (aem i d) using aee with
  |false=>
   rw[e]at a;rcases aeq.mp a with rfl|a
   ·omega
   ·have:=b a;omega
  |true=>
   rw[e]at a;have:=b a;omega
noncomputable def uQ (o d e:Nat) (f g:List O):Kv:=λv c=>match v with
 |.none=>(match aeQ e c.lo with
  |true=>(match c.st.get o with
   |some (.list a)=>(match bz (nat_lit 16) (.hl f) (.hl a) with
    |true=>(match c.st.get d with
     |some (.list b)=>(match bz (nat_lit 16) (.hl g) (.hl b) with
      |true=>.ok .none
      |false=>.no)
     |_=>.no)
    |false=>.no)
   |_=>.no)
  |false=>.no)
 |_=>.no
theorem Xt (h:uQ o d j e f v c=.ok .none):v=.none/\j<=c.lo/\c.st.get o=some (.list e)/\c.st.get d=some (.list f)/\kW e=true/\kW f=true:=by
 unfold uQ at h;split at h
 ·split at h
  ·rename_i k;split at h
   ·rename_i a l;split at h
    ·rename_i g;split at h
     ·rename_i b m;split at h
      ·rename_i i;refine ae (eK g) ?_;clear g;intro n p;refine ae (eK i) ?_;clear i;intro q r
       cases n;cases q
       exact (Fo rfl (aei k) l m p r)
      ·contradiction
     ·contradiction
    ·contradiction
   ·contradiction
  ·contradiction
 ·contradiction
noncomputable def yV (n:Nat) (d:Call) (args:List O) (σ:LS) (k:Kv):Option Rs:=lP none args λa b=>jf none a λh=>iK none b λf j=>
 aN none (and (and (and (aeQ (nat_lit 10) n) (aem f (nat_lit 3))) (and (n9 j) (afl h σ.n))) (and (afl (nat_lit 0) h) (lT [agf h,h] (nat_lit 8) σ.st lH (nat_lit 0)))) (aD none (σ.st.get (cU (bw fw (agm σ.st h)))) λo=>gF none o λg=>aD none (σ.st.get (cU (bw f9 (agm σ.st h)))) λo=>gF none o λc=> aen (motive:=λi=>Option Rs) (aN none (and (and (afl (cU (bw fw (agm σ.st h))) σ.n) (afl (cU (bw f9 (agm σ.st h))) σ.n)) (and (not (cL (cU (bw fw (agm σ.st h))) σ.mark)) (not (cL (cU (bw f9 (agm σ.st h))) σ.mark)))) (aN none (yk qz λe=>okN (d (.glob 336) [.ref h,e] ⟨σ.loc,σ.aK,σ.st,σ.n,σ.n,m9 (cU (bw fw (agm σ.st h))) (cU (bw f9 (agm σ.st h))) (Nat.sub σ.n (jm (cU (bw fw (agm σ.st h))) (cU (bw f9 (agm σ.st h))))) (jm (cU (bw fw (agm σ.st h))) (cU (bw f9 (agm σ.st h))))++σ.mark⟩ (uQ (cU (bw fw (agm σ.st h))) (cU (bw f9 (agm σ.st h))) (jm (cU (bw fw (agm σ.st h))) (cU (bw f9 (agm σ.st h)))) g (c++[gU])))) (some (join (k .none σ) (k .none ((σ.put (cU (bw fw (agm σ.st h))) (.list g)).put (cU (bw f9 (agm σ.st h))) (.list (c++[gU])))))))) (aN none (yk qz λe=>okN (d (.glob 336) [.ref h,e] ⟨σ.loc,σ.aK,σ.st,σ.n,σ.n,σ.mark⟩ (fW σ.n))) (some (k .none σ))) (anyB gU c))
variable{prog:ae0}{w:afh}{sl:KX}{tok:Nat->Fm}{bl:Nat->Bool}{dm:Dm}{cond:Nat->Bool}{src:List (aep×List aec)}{os:afn}
theorem GV{c:Cx (ba prog w sl tok bl dm cond src os)}{Q:aec->aeg->Prop}{E:aec->aeg->Prop}(H:gp r t tok) (uu:ja c A cal)
  (hc:ak c) (hA:aP c n A) (R:SR c σ s α N){args k y}(h:yV n cal args σ k=some y) (hy:y≠.no) (D:VR (ba prog w sl tok bl dm cond src os).kt α N p (.glob 336)) (f:ah (ba prog w sl tok bl dm cond src os).kt α N vals args) (F:fZ c y σ α N k Q):WP (ba prog w sl tok bl dm cond src os) A (afc p vals) Q E s:=by
 refine be (ml h aO) ?_;clear h;intro a0 b0 b h;subst b;refine Y (i0 h aO) ?_;clear h;intro a b h;subst b;refine be (jW h aO) ?_;clear h;intro qe j b h;subst b;refine ae (aS h aO) ?_;clear h;intro G h;simp only [ae4] at G;refine bU G ?_;clear G;intro b h4 el;obtain ⟨⟨I,L⟩,M,h3⟩:=b;have I:=aei I;obtain rfl:=aed L;have hk:=mP M;have bN:a<σ.n:=aei h3;have xG:0<a:=aei h4;refine aH (jV f rfl) ?_;intro P u b S w2;subst b;have l:=hX w2;have l:VR (ba prog w sl tok bl dm cond src os).kt α N u (tok j).e:=l;have Lg:¬(tok j).e∈qz->k .none σ=y->WP (ba prog w sl tok bl dm cond src os) A (afc p [P,u]) Q E s:=by
  intro C0 jA;have q:=dD (adA r t) _ (H.all j hk);rw [afK] at q;have q:=q.resolve_left λz=>C0 (Ga z)
  refine sm hc hA I R (π:=[agf a,a]) (l₀:=lH) (by simp;omega) (λi v=>?_) rfl (show 2<=1024 by decide) el (show mA [agf a,a] 16 (.glob 336) (.glob 336)=true from rfl) (args₀:=[.ref 1,(tok j).e]) (args:=[.ref a,(tok j).e])
   (eV (show mI [agf a,a] 1 a=true from afz a) (iq (yj H hk))) q D (.cons S (.cons l .nil)) λqa x B d g' h'=>F _ _ _ _ _ _ jA d g' h'
  simp only [aeq,aha,or_false] at v;rcases v with rfl|rfl
  ·exact af7 (Nat.pred_le _) bN
  ·exact bN
 refine Y (aR h aO) ?_;clear h;intro o1 ho h;refine Y (pJ h aO) ?_;clear h;intro l1 b h;subst b;refine Y (aR h aO) ?_;clear h;intro o2 hd h;refine Y (pJ h aO) ?_;clear h;intro l2 b h;subst b;induction nA:anyB gU l2 using aee with
 |true=>
  rw [nA] at h;refine ae (aS h aO) ?_;clear h;intro T h;have b:=aea h;clear h;subst y;by_cases q:(tok j).e∈qz
  ·have z:=GU (Gb T _ q);refine uu (.glob 336) [.ref a,(tok j).e] _ _ _ z (by intro h;contradiction) s α N E R.calm (λqc qd o x V B q=>by contradiction) p [P,u] D (.cons S (.cons l .nil)) (by
    have:=(yj H hk (π:=[]));show ([O.ref a,(tok j).e].all O.sure)=true;rw [ahI,ahI,Ac this];rfl) Q λqb o qa x V B jA d g f=>?_
   refine ae (aS (show aN .no (aeQ σ.n o.lo) (fV σ.n qb o)=.ok .none from jA) nofun) λeT uP=>?_
   have gW:=sg hc R d g f uP;refine ae (R.restore d g (aei eT)) ?_;clear eT;intro W X;exact F _ _ _ _ _ _ rfl W X gW
  ·exact Lg q rfl
 |false=>
  rw [nA] at h;refine ae (aS h aO) ?_;clear h;intro Z h;simp only [ae4,aeK] at Z;refine bU Z ?_;clear Z;intro b no nd;obtain ⟨e,C⟩:=b;have e:=aei e;have C:=aei C;refine ae (aS h aO) ?_;clear h;intro T h;have b:=aea h;clear h;subst y;refine ae (mc rfl hy) ?_;clear hy;intro y1 y2;by_cases q:(tok j).e∈qz
  ·have z:=GU (Gb T _ q);have mk:SR c ⟨σ.loc,σ.aK,σ.st,σ.n,σ.n,_⟩ s α N:=(SR.calm R).marked (m:=m9 (cU (bw fw (agm σ.st a))) (cU (bw f9 (agm σ.st a))) (Nat.sub σ.n (jm (cU (bw fw (agm σ.st a))) (cU (bw f9 (agm σ.st a))))) (jm (cU (bw fw (agm σ.st a))) (cU (bw f9 (agm σ.st a))))++σ.mark) (λi v=>(aeH.mp v).elim (λz=>aej (VK z) (af8 (aiJ (agM (af7 i9 e))))) (R.bt i))
   refine uu (.glob 336) [.ref a,(tok j).e] _ _ _ z (by intro h;contradiction) s α N E mk (λqc qd o x V B q=>by contradiction) p [P,u] D (.cons S (.cons l .nil)) (by
    have:=(yj H hk (π:=[]));show ([O.ref a,(tok j).e].all O.sure)=true;rw [ahI,ahI,Ac this];rfl) Q λqb o qa x V B jA d g f=>?_
   refine Fn (Xt jA) ?_;clear jA;intro b c1 c2 c3 c4 c5;subst b;refine ae (R.settle (λi L M=>VJ L (aej M (af8 (aiJ (agM (af7 i9 e))).symm))) d g c1 c2 c3 c4 c5 e C (iy no) (iy nd)) ?_;clear R e d g c1 c2 c3 c4 c5 C no nd;intro W X
   cases f
   exact F _ _ _ _ _ _ y2 W X .none
  ·exact Lg q y1
set_option backward.match.sparseCases false
end
section
noncomputable abbrev Ext:=Nat->Call->O->List O->LS->Kv->Option Rs
noncomputable def sV (f:O):Bool:=match f with
 |.glob a=>aem a (nat_lit 336)
 |_=>false
theorem EB(h:sV f=true):f=.glob 336:=by
 unfold sV at h;split at h
 ·rw[aed h]
 ·exact aX h
noncomputable def qW (r t:Bool) (X:Ext) (n:Nat) (d:Call):Call:=λf c b k=>match X n d f c b k with
 |some y=>y
 |none=>(match tI r t (afb n) f c b with
  |some a=>k a b
  |none=>(match sV f with
   |true=>(match yV (afb n) (eO cQ cR cP d) c b k with
    |some y=>y
    |none=>eO cQ cR cP d f c b k)
   |false=>eO cQ cR cP d f c b k))
noncomputable def oE (r t:Bool) (X:Ext) (n:Nat):Call:=afX (λa a a a=>.no) (λn b=>qW r t X n b) n
noncomputable def w9 (W:Wd) (X:Ext):Prop:=∀ n e,dv W n e->∀ (c:Cx W) A,ak c->aP c (n+1) A->∀ f d b k y,X n e f d b k=some y->y≠.no->∀ s a N E,SR c b s a N->jn c y b a N E->∀ g h,VR W.kt a N g f->ah W.kt a N h d->aeS d=true->∀ Q,fZ c y b a N k Q->WP W A (afc g h) Q E s
noncomputable def uZ:Ext:=λa a a a a a=>none
variable{prog:ae0}{w:afh}{sl:KX}{tok:Nat->Fm}{bl:Nat->Bool}{dm:Dm}{cond:Nat->Bool}{src:List (aep×List aec)}{os:afn}
theorem TN (H:gp r t tok) (G:w9 (ba prog w sl tok bl dm cond src os) X):∀ n,dv (ba prog w sl tok bl dm cond src os) n (oE r t X n):=by
 intro n;induction n with
 |zero=>exact λc A i j f d b k y h l=>bO h l
 |succ n q=>
  intro c A i j f d b k y h l s B N E R C u x m o D Q p;have F:eO cQ cR cP (oE r t X n) f d b k=y->WP (ba prog w sl tok bl dm cond src os) A (afc u x) Q E s:=λh=>pW mK mh q c A i j f d b k y h l s B N E R C u x m o D Q p
  have g:(match X n (oE r t X n) f d b k with
   |some y=>y
   |none=>(match tI r t (afb n) f d b with
    |some a=>k a b
    |none=>(match sV f with
     |true=>(match yV (afb n) (eO cQ cR cP (oE r t X n)) d b k with
      |some y=>y
      |none=>eO cQ cR cP (oE r t X n) f d b k)
     |false=>eO cQ cR cP (oE r t X n) f d b k)))=y:=h
  split at g
  ·rename_i I z;subst g;exact G n _ q c A i j f d b k _ z l s B N E R C u x m o D Q p
  ·split at g
   ·rename_i a L;exact Fi H i j R L m o λv V W M P S=>p _ _ _ _ _ _ g M P S
   ·split at g
    ·rename_i T;have e:=EB T;subst e;split at g
     ·rename_i I z;subst g;exact GV H (pW mK mh q c A i j) i j R z l m o p
     ·exact F g
    ·exact F g
end
section
variable{prog:ae0}{w:afh}{sl:KX}{tok:Nat->Fm}{bl:Nat->Bool}{dm:Dm}{cond:Nat->Bool}{src:List (aep×List aec)}{os:afn}
set_option backward.match.sparseCases true
noncomputable def lj (P:O->Bool) (n:Nat):Kv:=λv w=>match aeQ n w.lo with
 |true=>(match fV n v w with
  |.ok r=>(match and (lg r) (P r) with
   |true=>.ok .none
   |false=>.no)
  |_=>.no)
 |false=>.no
theorem TP{P:O->Bool}(h:lj P n a b=.ok .none):aeQ n b.lo=true/\∃ r,fV n a b=.ok r/\lg r=true/\P r=true:=by
 unfold lj at h;split at h
 ·rename_i c;split at h
  ·rename_i r d;split at h
   ·rename_i w;rw[ae4]at w;exact(Gg c r d w.1 w.2)
   ·contradiction
  ·contradiction
 ·contradiction
theorem adB{P:O->Bool}:jk cQ cR cP m f args (gn l loc) (lj P l.length)=jk cQ cR cP m f args (gn l []) (lj P l.length):=by
 induction m using aez with
 |zero=>rfl
 |succ m=> show eO cQ cR cP (jk cQ cR cP m) f args (gn l loc) (lj P l.length)=eO cQ cR cP (jk cQ cR cP m) f args (gn l []) (lj P l.length);induction f using O.casesOn<;>rfl
theorem TQ{W:Wd}(HT:mw W cQ cR) (e:oa W cP){c:Cx W}(g:ak c) (l:aP c n A) (o:m<=n) (R:SR c σ s α N) (p:π.Nodup) (q:∀ i∈π,i<σ.n) (t:π.length=l₀.length) (u:l₀.length<=1024) (x:lT π 8 σ.st l₀ 0=true) (y:∀ (j i k:Nat),l₀[j]?=some (.src k)->π[j]?=some i->i∉σ.mark) (z:mA π 16 f₀ f=true) (B:mL (mA π 16) args₀ args=true){P:O->Bool}(D:jk cQ cR cP m f₀ args₀ (gn l₀ []) (lj P l₀.length)=.ok .none) {vals:List aec}(F:VR W.kt α N G f) (H:ah W.kt α N vals args){Q:aec->aeg->Prop}{E}(I:∀ r v d b,P r=true->SR c σ d α b->bh σ α N σ α b->VR W.kt α b v r->Q v d):WP W A (afc G vals) Q E s:=
 Ez (zO HT e m) g (l.less o) R p q t u x y z B (K₀:=lj P l₀.length) (P:=λr=>P r=true) (y₀:=.ok .none) (by intro h;contradiction) (λC h=>by contradiction) (λa w h=>TP h) (λL=>adB.trans D) F H I
noncomputable def dy(x:Fm):O:=.hl [x.w,x.t]
noncomputable def AB (l:List Fm) (r:O):Bool:=aeC false (λx a w=>aen w true (bz (nat_lit 14) r (dy x))) l
theorem EC:∀ {l:List Fm},AB l r=true->∃ x∈l,r=dy x
 |[],h=>by exact aX h
 |x::l,h=>by
  have h':aen (motive:=λb=>Bool) (AB l r) true (bz 14 r (dy x))=true:=h
  induction q:bz 14 r (dy x) using aee with
  |true=>exact⟨x,.head _,(eK q).1⟩
  |false=>
   rw[q]at h';refine Y (EC h') ?_;clear h';intro y w a;exact (ay y (.tail _ w) a)
noncomputable def ng (r:Bool):O:=.tup (match r with|true=>[.str lC]|false=>[])
noncomputable def tA(t:Bool):O:=match t with|true=>.str cM|false=>.none
noncomputable def j9(r t:Bool):O:=.hl [ng r,tA t]
noncomputable def xa (r t:Bool) (d:Nat):Rs:=jk cQ cR cP 16 (.glob 911) [.ref 0,.int (.ofNat d),j9 r t] (gn [.src 0] []) (lj (AB (bE r t d)) 1)
theorem Xu:∀ r t,xa r t 2=.ok .none:=by intro r t;induction r using aee<;>induction t using aee<;>kernel_rfl
theorem Xv:∀ r t,xa r t 1=.ok .none:=by intro r t;induction r using aee<;>induction t using aee<;>kernel_rfl
theorem VL{W:Wd}(HT:mw W cQ cR) (l:oa W cP){c:Cx W}(m:ak c) (p:aP c n A) (q:16<=n) (R:SR c σ s α N) (u:σ.st.get i=some (.src k)) (y:i<σ.n) (z:i∉σ.mark) (B:xa r t d=.ok .none)
  {vals:List aec}(C:VR W.kt α N D (.glob 911)) (F:ah W.kt α N vals [.ref i,.int (.ofNat d),j9 r t]){Q:aec->aeg->Prop}{E}(G:∀ x∈bE r t d,∀ v e b,SR c σ e α b->bh σ α N σ α b->VR W.kt α b v (dy x)->Q v e):WP W A (afc D vals) Q E s:=by
 refine TQ HT l m p q R (π:=[i]) (l₀:=[.src 0]) (by simp) (λj H=>by rw [ael.mp H];exact y) rfl (show 1<=1024 by decide) ?_ (λj I T L w=>?_) (f₀:=.glob 911) rfl (args₀:=[.ref 0,.int (.ofNat d),j9 r t]) ?_ B C F λa v e b f M g P=>?_
 ·show aD false (σ.st.get i) (λo=>and (mO [i] 8 0 (.src 0) o) true)=true
  rw [u];rfl
 ·induction j using aez with
  |zero=>have h:=aea w;clear w;subst I;exact z
  |succ j=>simp at L
 ·refine eV (show mI [i] 0 i=true from afz i) (eV ?_ (iq ?_))
  ·exact decide_eq_true rfl
  ·induction r using aee<;>induction t using aee<;>rfl
 ·refine Y (EC f) ?_;clear f;intro x S h;subst h;exact G x S v e b M g P
noncomputable def gO (l:List Fm) (f:Fm->Rs):Rs:=aeC (motive:=λw=>Rs) .no (λx r a=>aeC (motive:=λw=>Rs) (f x) (λw w w=>join (f x) a) r) l
theorem Fj{f:Fm->Rs}(d:y≠.no):∀ {l:List Fm},gO l f=y->∀ x∈l,f x=y
 |[],h,x,c=>by cases c
 |[a],h,x,c=>by rw[ael.mp c];exact h
 |a::b::l,h,x,c=>by
  have h':join (f a) (gO (b::l) f)=y:=h;refine ae (mc h' d) ?_;clear h';intro w e;rcases aeq.mp c with rfl|c
  ·exact w
  ·exact Fj d e x c
theorem zx{f:Fm->Rs}:∀ {l:List Fm},l≠[]->(∀ x∈l,f x=.ok .none)->gO l f=.ok .none
 |[],h,c=>absurd rfl h
 |[a],c,h=>h a (.head _)
 |a::b::l,c,h=>by
  show join (f a) (gO (b::l) f)=_;rw[h a (.head _),zx (by simp) λx d=>h x (.tail _ d)]
  exact zw rfl
noncomputable def vd(a:Nat)(f:O):Bool:=match f with
 |.glob b=>aem b a
 |_=>false
theorem GW(h:vd a f=true):f=.glob a:=by
 unfold vd at h;split at h
 ·rw[aed h]
 ·exact aX h
noncomputable def yW (r:Bool) (b:O):Option (Bool×Bool):=aen (motive:=λw=>Option (Bool×Bool)) (aN none (bz 4 b (tA false)) (some (r,false))) (some (r,true)) (bz 4 b (tA true))
noncomputable def Lh (a:O):Option (Bool×Bool):=lp none a λl=>lP none l λx b=>cD none x λl=>
 aen (motive:=λw=>Option (Bool×Bool)) (aN none (bz 4 (.tup l) (ng false)) (yW false b)) (yW true b) (bz 4 (.tup l) (ng true))
theorem GY (h:yW a b=some (r,t)):a=r/\b=tA t:=by
 unfold yW at h;induction q:bz 4 b (tA true) using aee with
 |true=>rw[q]at h;have e:=aeZ (aea h);exact⟨e.1,(eK q).1.trans (congrArg tA e.2)⟩
 |false=>
  rw[q]at h;refine ae (aS h aO) λw c=>?_
  have e:=aeZ (aea c);exact⟨e.1,(eK w).1.trans (congrArg tA e.2)⟩
theorem TR (h:Lh a=some (r,t)):a=j9 r t:=by
 refine Y (sq h aO) ?_;clear h;intro g w h;subst w;refine be (ml h aO) ?_;clear h;intro x b w h;subst w;refine Y (dO h aO) ?_;clear h;intro l w h;subst w;induction q:bz 4 (.tup l) (ng true) using aee with
 |true=>
  rw[q]at h;refine ae (GY h) λc d=>?_
  rw[(eK q).1,d,←c];rfl
 |false=>
  rw[q]at h;refine ae (aS h aO) λe f=>?_
  refine ae (GY f) λc d=>?_
  rw[(eK e).1,d,←c];rfl
noncomputable def Li{a:Type}(z:a) (i:Int) (f:Nat->a):a:=Int.rec (motive:=λw=>a) f (λw=>z) i
theorem TS{a:Type}{z y₀:a}{f:Nat->a}(h:Li z i f=y₀)(b:y₀≠z):∃ n,i=.ofNat n/\f n=y₀:=by
 induction i using afw with
 |ofNat n=>exact⟨n,rfl,h⟩
 |negSucc n=>exact absurd h.symm b
noncomputable def XD:Ext:=λn c f e w k=>aN none (vd 911 f) (gf none e λa r=>jf none a λi=>gf none r λb r=>dR none b λd=>iR none r λg=>Li none d λd=>
 aN none (and (and (aeQ (nat_lit 16) (afb n)) (or (aem d (nat_lit 1)) (aem d (nat_lit 2)))) (and (afl i w.n) (not (cL i w.mark)))) (aD none (w.st.get i) λo=>sD none o λc=>aD none (Lh g) λp=>some (gO (bE p.1 p.2 d) λx=>k (dy x) w)))
theorem aaV:w9 (ba prog w sl tok bl dm cond src os) XD:=by
 intro n Q S c A i j f T V k y h l s W N E R X Z vals m o hp qa u;refine ae (aS h aO) ?_;clear h;intro v h;have e:=GW v;subst e;refine be (g9 h aO) ?_;clear h;intro a0 r0 a h;subst a;refine Y (i0 h aO) ?_;clear h;intro qb a h;subst a;refine be (g9 h aO) ?_;clear h;intro a1 r1 a h;subst a;refine Y (jT h aO) ?_;clear h;intro d' a h;subst a;refine Y (jb h aO) ?_;clear h;intro td a h;subst a;refine Y (TS h aO) ?_;clear h;intro d a h;subst a;refine ae (aS h aO) ?_;clear h;intro b h;simp only[ae4,afK,aeK]at b;refine bU b ?_;clear b;intro a z B;obtain⟨C,D⟩:=a;refine Y (aR h aO) ?_;clear h;intro qc F h;refine Y (vr h aO) ?_;clear h;intro k' a h;subst a;refine Y (aR h aO) ?_;clear h;intro p G h;obtain⟨r,t⟩:=p;have a:=aea h;clear h;subst y;have e:=TR G;subst e;have H:=Fj l rfl;have I:xa r t d=.ok .none:=by
  rcases D with q|q
  ·rw[aed q];exact Xv r t
  ·rw[aed q];exact Xu r t
 exact VL mK mh i j (aei C) R F (aei z) (iy B) I m o λx L qd s' N' M g P=>u _ _ _ _ _ _ (H x L) M g P
set_option backward.match.sparseCases false
end
noncomputable def aaW(X:Ext)(n:Nat)(a:Call):Call:=λf b c k=>match X n a f b c k with
 |some y=>y
 |none=>eO cQ cR cP a f b c k
noncomputable def qX (X:Ext) (n:Nat):Call:=afX (λa a a a=>.no) (λn b=>aaW X n b) n
theorem TU{W:Wd}(HT:mw W cQ cR) (v:oa W cP){X:Ext}(w:w9 W X):∀ n,dv W n (qX X n):=by
 intro n;induction n with
 |zero=>exact λc A e g f a b k y h d=>bO h d
 |succ n j=>
  intro c A e g f a b k y h d s l N E R m o p q r t Q u;have i:(match X n (qX X n) f a b k with
   |some y=>y
   |none=>eO cQ cR cP (qX X n) f a b k)=y:=h
  split at i
  ·rename_i z x;subst i;exact w n _ j c A e g f a b k _ x d s l N E R m o p q r t Q u
  ·exact pW HT v j c A e g f a b k y i d s l N E R m o p q r t Q u
noncomputable def S3 (k:Call):Sc:=(bX (bP false (.one 1) true [(3,0),(4,2)] (iO (az k 884 (bg (aA 0) (bg (cC (.int 3)) aI)))) bo (az k 911 (bg (aA 3) (bg (cC (.int 2)) (bg (aA 4) aI))))) (J 1) (cC (.str dH)))
noncomputable def S4 (k:Call):Sc:=(bX (bP false (.one 1) true [(3,0)] (iO (cC (.int 2))) bo (c0 .Eq (az k 884 (bg (aA 3) (bg (cC (.int 2)) aI))) (cC (.int 0)))) (J 1) (cC (.str fg)))
noncomputable def S5 (k:Call):Sc:=(bX (bP false (.one 1) true [(3,0),(4,2)] (iO (az k 884 (bg (aA 0) (bg (cC (.int 3)) aI)))) bo (az k 911 (bg (aA 3) (bg (cC (.int 2)) (bg (aA 4) aI))))) (J 1) (cC (.str fx)))
noncomputable def S6 (k:Call):Sc:=(bX (c0 .Eq (az k 884 (bg (aA 0) (bg (cC (.int 2)) aI))) (cC (.int 0))) (J 1) (cC (.str o6)))
noncomputable def S7 (k:Call):Sc:=(bX (az k 911 (bg (aA 0) (bg (cC (.int 1)) (bg (aA 2) aI)))) (J 1) (cC (.str dw)))
noncomputable def S8 (k:Call):Sc:=(bX (az k 911 (bg (aA 0) (bg (cC (.int 1)) (bg (aY (bg (ai aI) (bg (cC .none) aI))) aI)))) (J 1) (cC (.str dW)))
noncomputable def S9 (k:Call):Sc:=(aB (au .Eq (az k 884 (bg (aA 0) (bg (cC (.int 3)) aI))) (cC (.int 0))) (eP (bX (aY (bg (ai (bg (cC (.str s0)) (bg (cC (.int 0)) (bg (cC .none) (bg (cC (.bool true)) (bg (az k 904 (bg (aY (bg (cC (.str dX)) aI)) aI)) aI)))))) (bg (ai (bg (cC (.str s0)) (bg (cC (.str gw)) (bg (cC (.bool true)) (bg (ai (bg (cC (.str il)) (bg (cC (.str dX)) aI))) aI))))) aI))) (J 1) (cC (.str dW))) aF) aF)
noncomputable def OA (k:Call):Sc:=(bX (az k 891 (bg (aA 0) (bg (aY (bg (cC (.str kh)) (bg (cC (.str s0)) (bg (cC (.str s8)) (bg (cC (.str s0)) aI))))) aI))) (J 1) (cC (.str eR)))
noncomputable def OB (k:Call):Sc:=(bX (c0 .Eq (az k 884 (bg (aA 0) (bg (cC (.int 2)) aI))) (cC (.int 0))) (J 1) (cC (.str hZ)))
noncomputable def S12:Sc:=(aG (J 1))
noncomputable def DB(k:Call):Sc:=eP S12 aF
noncomputable def DC (k:Call):Sc:=eP (OB k) (DB k)
noncomputable def DD (k:Call):Sc:=eP (OA k) (DC k)
noncomputable def U9 (k:Call):Sc:=eP (S9 k) (DD k)
noncomputable def U8 (k:Call):Sc:=eP (S8 k) (U9 k)
noncomputable def U7 (k:Call):Sc:=eP (S7 k) (U8 k)
noncomputable def U6 (k:Call):Sc:=eP (S6 k) (U7 k)
noncomputable def U5 (k:Call):Sc:=eP (S5 k) (U6 k)
noncomputable def U4 (k:Call):Sc:=eP (S4 k) (U5 k)
noncomputable def U3 (k:Call):Sc:=eP (S3 k) (U4 k)
noncomputable def kA:LS:=((((⟨[],[],lJ,0,0,[]⟩:LS).push (.tab 813 xP)).push (.tab 146 s9)).push (.tab 392 yJ)).push (.tab 302 yH)
noncomputable def ia:LS:=⟨[(1,.ref 4)],[],Tr.set (.src 0) 10 kA.st 4,5,0,[]⟩
noncomputable def pG (a b:AO):Tr:=Tr.set b 10 (Tr.set (.cell (some (.ref 4))) 10 (Tr.set a 10 ia.st 5) 6) 7
noncomputable def σF (a:O) (b:List (Str×O)):LS:=⟨[(1,.ref 7)],[(2,5),(0,6)],pG (.cell (some a)) (.dict b),8,0,[]⟩
noncomputable def kF:Call:=qX XD 19
noncomputable def cY (K:Kv):Kv:=λv a=>K v (back ia a)
noncomputable def ee (K:Kv):LS->Rs:=λa=>K .none (back ia a)
noncomputable def OC (r t:Bool)(l:List (Str×O)):List (Str×O):=(gS,ng r)::(cM,tA t)::l
noncomputable def bK (r t:Bool) (l:List (Str×O)):LS:=σF (j9 r t) (OC r t l)
theorem d12 (K:Kv):qX XD 20 (.glob 916) [.ref 4] ia K=join (join (U3 kF (bK true true []) (ee K) (cY K)) (U3 kF (bK true false []) (ee K) (cY K))) (join (U3 kF (bK false true []) (ee K) (cY K)) (U3 kF (bK false false []) (ee K) (cY K))):=by kernel_rfl
noncomputable def c9 (l:List Fm):O:=.hl (l.map dy)
theorem d3 (r t:Bool) (kn:LS->Rs) (kr:Kv):S3 kF (bK r t []) kn kr=join (js (gO (bE r t 2) λx=>gO (bE r t 2) λy=>gm (kn (bK r t [(dH,c9 [x,y])])))) (join (js (gO (bE r t 2) λx=>gm (kn (bK r t [(dH,c9 [x])])))) (js (gm (kn (bK r t [(dH,c9 [])]))))):=by induction r using aee<;>induction t using aee<;>kernel_rfl
theorem d4 (r t:Bool) (a:O) (kn:LS->Rs) (kr:Kv):S4 kF (bK r t [(dH,a)]) kn kr=js (join (join (gm (kn (bK r t [(dH,a),(fg,.hl [.bool false,.bool false])]))) (gm (kn (bK r t [(dH,a),(fg,.hl [.bool false,.bool true])])))) (join (gm (kn (bK r t [(dH,a),(fg,.hl [.bool true,.bool false])]))) (gm (kn (bK r t [(dH,a),(fg,.hl [.bool true,.bool true])]))))):=by induction r using aee<;>induction t using aee<;>kernel_rfl
theorem d5 (r t:Bool) (a b:O) (kn:LS->Rs) (kr:Kv):S5 kF (bK r t [(dH,a),(fg,b)]) kn kr=join (js (gO (bE r t 2) λx=>gO (bE r t 2) λy=>gm (kn (bK r t [(dH,a),(fg,b),(fx,c9 [x,y])])))) (join (js (gO (bE r t 2) λx=>gm (kn (bK r t [(dH,a),(fg,b),(fx,c9 [x])])))) (js (gm (kn (bK r t [(dH,a),(fg,b),(fx,c9 [])]))))):=by induction r using aee<;>induction t using aee<;>kernel_rfl
theorem d6 (r t:Bool) (a b c:O) (kn:LS->Rs) (kr:Kv):S6 kF (bK r t [(dH,a),(fg,b),(fx,c)]) kn kr=join (kn (bK r t [(dH,a),(fg,b),(fx,c),(o6,.bool false)])) (kn (bK r t [(dH,a),(fg,b),(fx,c),(o6,.bool true)])):=by induction r using aee<;>induction t using aee<;>kernel_rfl
noncomputable def l6 (a b c d:O)(l:List (Str×O)):List (Str×O):=(dH,a)::(fg,b)::(fx,c)::(o6,d)::l
theorem d7 (r t:Bool) (a b c d:O) (kn:LS->Rs) (kr:Kv):S7 kF (bK r t (l6 a b c d [])) kn kr=gO (bE r t 1) λx=>kn (bK r t (l6 a b c d [(dw,dy x)])):=by induction r using aee<;>induction t using aee<;>kernel_rfl
theorem d8 (r t:Bool) (a b c d e:O) (kn:LS->Rs) (kr:Kv):S8 kF (bK r t (l6 a b c d [(dw,e)])) kn kr=gO (bE false false 1) λx=>kn (bK r t (l6 a b c d [(dw,e),(dW,dy x)])):=by induction r using aee<;>induction t using aee<;>kernel_rfl
noncomputable def aaX:O:=.hl [fO.w,fO.t]
theorem d9 (r t:Bool) (a b c d e f:O) (kn:LS->Rs) (kr:Kv):S9 kF (bK r t (l6 a b c d [(dw,e),(dW,f)])) kn kr=join (kn (bK r t (l6 a b c d [(dw,e),(dW,f)]))) (join (kn (bK r t (l6 a b c d [(dw,e),(dW,f)]))) (js (gm (kn (bK r t (l6 a b c d [(dw,e),(dW,aaX)])))))):=by induction r using aee<;>induction t using aee<;>kernel_rfl
theorem d10 (r t:Bool) (a b c d e f:O) (kn:LS->Rs) (kr:Kv):OA kF (bK r t (l6 a b c d [(dw,e),(dW,f)])) kn kr=join (kn (bK r t (l6 a b c d [(dw,e),(dW,f),(eR,.str (iX 1))]))) (join (kn (bK r t (l6 a b c d [(dw,e),(dW,f),(eR,.str (iX 2))]))) (join (kn (bK r t (l6 a b c d [(dw,e),(dW,f),(eR,.str (iX 1))]))) (kn (bK r t (l6 a b c d [(dw,e),(dW,f),(eR,.str (iX 0))]))))):=by induction r using aee<;>induction t using aee<;>kernel_rfl
theorem d11 (r t:Bool) (a b c d e f g:O) (kn:LS->Rs) (kr:Kv):OB kF (bK r t (l6 a b c d [(dw,e),(dW,f),(eR,g)])) kn kr=join (kn (bK r t (l6 a b c d [(dw,e),(dW,f),(eR,g),(hZ,.bool false)]))) (kn (bK r t (l6 a b c d [(dw,e),(dW,f),(eR,g),(hZ,.bool true)]))):=by induction r using aee<;>induction t using aee<;>kernel_rfl
noncomputable def rV (r t:Bool)(a b c d e f g h:O):List (Str×O):=OC r t (l6 a b c d [(dw,e),(dW,f),(eR,g),(hZ,h)])
noncomputable def OD (r t:Bool) (a b c d e f g h:O):LS:=⟨[(1,.ref 4)],[],pG (.cell (some (j9 r t))) (.dict (rV r t a b c d e f g h)),8,0,[]⟩
theorem M0 (r t:Bool) (a b c d e f g h:O) (K:Kv):DB kF (bK r t (l6 a b c d [(dw,e),(dW,f),(eR,g),(hZ,h)])) (ee K) (cY K)=K (.ref 7) (OD r t a b c d e f g h):=by induction r using aee<;>induction t using aee<;>kernel_rfl
theorem jj(h:a=.ok .none)(h':b=.ok .none):join a b=.ok .none:=by rw[h,h'];exact zw rfl
noncomputable def E0:Rs:=gm (.ok .none)
theorem je(h:a=E0)(h':b=E0):join a b=E0:=by rw[h,h'];exact zw rfl
theorem en(h:a=.ok .none):gm a=E0:=by rw[h];rfl
theorem de(h:a=E0):js a=.ok .none:=by rw[h];rfl
theorem jF{f:Fm->Rs}:∀ {l:List Fm},l≠[]->(∀ x∈l,f x=E0)->gO l f=E0
 |[],h,c=>absurd rfl h
 |[a],c,h=>h a (.head _)
 |a::b::l,c,h=>je (h a (.head _)) (jF (l:=b::l) (by simp) λx d=>h x (.tail _ d))
theorem ma:bE r t n≠[]:=by
 induction n using aez<;>exact List.cons_ne_nil _ _
noncomputable def AD (K:Kv):Prop:=∀ (r t:Bool) (a:List Fm) (s1 s2:Bool) (b:List Fm) (lo:Bool) (o c:Fm) (d:Nat) (e:Bool),a.length<=2->(∀ x∈a,x∈bE r t 2)->b.length<=2->(∀ x∈b,x∈bE r t 2)->o∈bE r t 1->c∈gI->d<=2->
 K (.ref 7) (OD r t (c9 a) (.hl [.bool s1,.bool s2]) (c9 b) (.bool lo) (dy o) (dy c) (.str (iX d)) (.bool e))=.ok .none
section
variable{K:Kv}(h:AD K){r t:Bool}
include h
section
variable{fs:List Fm}(h1:fs.length<=2)(h2:∀ x∈fs,x∈bE r t 2)
include h1 h2
section
variable{s1 s2:Bool}
section
variable{ins:List Fm}(h3:ins.length<=2)(h4:∀ x∈ins,x∈bE r t 2)
include h3 h4
section
variable{lo:Bool}{o:Fm}(h5:o∈bE r t 1)
include h5
section
variable{cn:Fm}(h6:cn∈gI)
include h6
theorem yX (a:b<=2):DC kF (bK r t (l6 (c9 fs) (.hl [.bool s1,.bool s2]) (c9 ins) (.bool lo) [(dw,dy o),(dW,dy cn),(eR,.str (iX b))])) (ee K) (cY K)=.ok .none:=
 (d11 r t _ _ _ _ _ _ _ (λc=>DB kF c (ee K) (cY K)) (cY K)).trans (jj ((M0 ..).trans (h _ _ _ _ _ _ _ _ _ _ _ h1 h2 h3 h4 h5 h6 a)) ((M0 ..).trans (h _ _ _ _ _ _ _ _ _ _ _ h1 h2 h3 h4 h5 h6 a)))
theorem DE:DD kF (bK r t (l6 (c9 fs) (.hl [.bool s1,.bool s2]) (c9 ins) (.bool lo) [(dw,dy o),(dW,dy cn)])) (ee K) (cY K)=.ok .none:=
 (d10 r t _ _ _ _ _ _ (λa=>DC kF a (ee K) (cY K)) (cY K)).trans (jj (yX h h1 h2 h3 h4 h5 h6 (by decide)) (jj (yX h h1 h2 h3 h4 h5 h6 (by decide)) (jj (yX h h1 h2 h3 h4 h5 h6 (by decide)) (yX h h1 h2 h3 h4 h5 h6 (by decide)))))
theorem u9:U9 kF (bK r t (l6 (c9 fs) (.hl [.bool s1,.bool s2]) (c9 ins) (.bool lo) [(dw,dy o),(dW,dy cn)])) (ee K) (cY K)=.ok .none:=
 (d9 r t _ _ _ _ _ _ (λa=>DD kF a (ee K) (cY K)) (cY K)).trans (jj (DE h h1 h2 h3 h4 h5 h6) (jj (DE h h1 h2 h3 h4 h5 h6) (de (en (DE (cn:=fO) h h1 h2 h3 h4 h5 (.head _))))))
end
theorem u8:U8 kF (bK r t (l6 (c9 fs) (.hl [.bool s1,.bool s2]) (c9 ins) (.bool lo) [(dw,dy o)])) (ee K) (cY K)=.ok .none:=
 (d8 r t _ _ _ _ _ (λa=>U9 kF a (ee K) (cY K)) (cY K)).trans (zx ma λx b=>u9 h h1 h2 h3 h4 h5 (.tail _ b))
end
theorem u7{lo:Bool}:U7 kF (bK r t (l6 (c9 fs) (.hl [.bool s1,.bool s2]) (c9 ins) (.bool lo) [])) (ee K) (cY K)=.ok .none:=
 (d7 r t _ _ _ _ (λa=>U8 kF a (ee K) (cY K)) (cY K)).trans (zx ma λx b=>u8 h h1 h2 h3 h4 b)
theorem u6:U6 kF (bK r t [(dH,c9 fs),(fg,.hl [.bool s1,.bool s2]),(fx,c9 ins)]) (ee K) (cY K)=.ok .none:=
 (d6 r t _ _ _ (λa=>U7 kF a (ee K) (cY K)) (cY K)).trans (jj (u7 h h1 h2 h3 h4) (u7 h h1 h2 h3 h4))
end
theorem u5:U5 kF (bK r t [(dH,c9 fs),(fg,.hl [.bool s1,.bool s2])]) (ee K) (cY K)=.ok .none:=
 (d5 r t _ _ (λb=>U6 kF b (ee K) (cY K)) (cY K)).trans (jj (de (jF ma λx a=>jF ma λy c=>en (u6 h h1 h2 (ins:=[x,y]) (aeu 2) (by simp [a,c])))) (jj (de (jF ma λx a=>en (u6 h h1 h2 (ins:=[x]) (afY 1) (by simp [a])))) (de (en (u6 h h1 h2 (ins:=[]) (afa 2) (by simp))))))
end
theorem u4:U4 kF (bK r t [(dH,c9 fs)]) (ee K) (cY K)=.ok .none:=
 (d4 r t _ (λa=>U5 kF a (ee K) (cY K)) (cY K)).trans (de (je (je (en (u5 h h1 h2)) (en (u5 h h1 h2))) (je (en (u5 h h1 h2)) (en (u5 h h1 h2)))))
end
theorem u3:U3 kF (bK r t []) (ee K) (cY K)=.ok .none:=
 (d3 r t (λb=>U4 kF b (ee K) (cY K)) (cY K)).trans (jj (de (jF ma λx a=>jF ma λy c=>en (u4 h (fs:=[x,y]) (aeu 2) (by simp [a,c])))) (jj (de (jF ma λx a=>en (u4 h (fs:=[x]) (afY 1) (by simp [a])))) (de (en (u4 h (fs:=[]) (afa 2) (by simp))))))
end
theorem draws{K:Kv}(h:AD K):qX XD 20 (.glob 916) [.ref 4] ia K=.ok .none:=(d12 K).trans (jj (jj (u3 h) (u3 h)) (jj (u3 h) (u3 h)))
section
theorem vG{P:O->Prop}(c:P .none) (d:∀ b,P (.bool b)) (e:∀ i,P (.int i)) (f:∀ x,P (.str x)) (g:∀ l,mL (bz n) l l=true->P (.tup l)) (j:∀ l,mL (bz n) l l=true->P (.hl l)) (h:bz (n+1) a a=true):P a:=by
 induction a using O.casesOn with
 |none=>exact c
 |bool b=>exact d b
 |int i=>exact e i
 |str x=>exact f x
 |tup l=>exact g l h
 |hl l=>exact j l h
 |_=>exact aX h
theorem v7{α:Type}{f:α->α->Bool}{l:List α}:mL f l l=true->∀ a∈l,f a a=true:=by
 induction l with
 |nil=>exact λc c h=>nomatch h
 |cons b l d=> intro h a g;refine ae (ad9.mp (show and (f b b) (mL f l l)=true from h)) ?_;clear h;intro i j;exact (aeq.mp g).elim (λe=>e▸i) (d j a)
theorem so (h:bz n a a=true):a.sure=true:=by
 induction n using aez with
 |zero=>exact aX h
 |succ n=>exact vG (P:=λa=>a.sure=true) rfl (λb=>rfl) (λb=>rfl) (λb=>rfl) (λb b=>rfl) (λb b=>rfl) h
noncomputable def OE(a:O):Bool:=afD false a λb=>true
noncomputable def Bc (l:List O):Bool:=aeC true (λa c b=>and (OE a) b) l
theorem TV:Bc l=true->∃ b:List Str,l=b.map .str:=by
 induction l with
 |nil=>exact λg=>⟨[],rfl⟩
 |cons a l d=>
  intro h;refine ae (ad9.mp (show and (OE a) (Bc l)=true from h)) λe f=>?_
  refine Y (gD e nofun) ?_;clear e;intro x c g;subst c;refine aL (d f) ?_;clear d f;intro b c;subst c;exact⟨x::b,rfl⟩
noncomputable def wB (a:O):Bool:=cD false a λl=>gf false l λb r=>gf false r λc r=>dR false c λi=>and (decide (i=0)) b.sure
theorem aaY (h:wB a=true):∃ b r,a=.tup (b::.int 0::r)/\b.sure=true:=by
 refine Y (dO h nofun) ?_;clear h;intro l d h;subst d;refine be (g9 h nofun) ?_;clear h;intro b r d h;subst d;refine be (g9 h nofun) ?_;clear h;intro c r d h;subst d;refine Y (jT h nofun) ?_;clear h;intro i d h;subst d;refine ae (ad9.mp h) ?_;clear h;intro e f;exact (gJ b r (by rw[of_decide_eq_true e]) f)
noncomputable def yY (x:Fm) (f:Nat):O:=aij (motive:=λa=>O) f x.w λf=>aij (motive:=λa=>O) f x.t λf=>aij (motive:=λa=>O) f (.hl x.g) λf=>aij (motive:=λa=>O) f x.e λa=>x.p
noncomputable def kB (x:Fm):Bool:=and ([0,1,2,3,4].all λf=>bz 20 (yY x f) (yY x f)) (and (Bc x.g) (wB x.w))
theorem Lj:∀ r t,fj (bE r t 2) kB=true:=by intro r t;induction r using aee<;>induction t using aee<;>kernel_rfl
theorem Lk:fj gI kB=true:=by kernel_rfl
theorem oh (h:kB x=true) (a:f∈[0,1,2,3,4]):bz 20 (yY x f) (yY x f)=true:=aeB.mp (ad9.mp h).1 f a
theorem Xw{D:O->Option afj}:(∀ a∈l,a.sure=true/\∃ d,D a=some d)->∃ e,dL T D l=some e:=by
 induction l with
 |nil=>exact λn=>⟨[],rfl⟩
 |cons a l f=>
  intro h;refine Ls (h a (.head _)) λg d i=>?_
  refine aL (f λb j=>h b (.tail _ j)) ?_;clear f h;intro e k
  rcases fD a with⟨c,v,rfl⟩|m
  ·exact aX g
  ·exact⟨d::e,by rw[nX m,i,k];rfl⟩
theorem Xx{T:KT}{st:Tr}{n:Nat}:∀ {a:O},bz n a a=true->∃ d,DR T st n a d:=by
 induction n with
 |zero=>exact λh=>nomatch h
 |succ n i=>
  intro a h;have c:∀ l,mL (bz n) l l=true->∃ b,dL T (toD T st n) l=some b:=λl h=>Xw λa f=>⟨so (v7 h a f),i (v7 h a f)⟩
  exact vG (P:=λa=>∃ d,DR T st (n+1) a d) ⟨_,rfl⟩ (λg=>⟨_,rfl⟩) (λg=>⟨_,rfl⟩) (λg=>⟨_,rfl⟩) (λl h=>(c l h).elim λb e=>⟨_,DR.Gp rfl e⟩) (λl h=>(c l h).elim λb e=>⟨_,DR.Al rfl e⟩) h
theorem Qw:(∀ a∈l,below m a=true)->belows m l=true:=by
 induction l with
 |nil=>exact λe=>rfl
 |cons a l c=>exact λh=>ad9.mpr ⟨h a (.head _),c λb d=>h b (.tail _ d)⟩
theorem Rz:∀ {a:O},bz n a a=true->below m a=true:=by
 induction n with
 |zero=>exact λh=>nomatch h
 |succ n d=>
  intro a h;have b:∀ l,mL (bz n) l l=true->belows m l=true:=λl h=>Qw λa e=>d (v7 h a e)
  exact vG (P:=λa=>below m a=true) rfl (λc=>rfl) (λc=>rfl) (λc=>rfl) (λl h=>pQ.trans (b l h)) (λl h=>zz.trans (b l h)) h
variable{prog:ae0}{w:afh}{sl:KX}{tok:Nat->Fm}{bl:Nat->Bool}{dm:Dm}{cond:Nat->Bool}{src:List (aep×List aec)}{os:afn}
theorem Xy (r t:Bool):([0,1,2,3,4,5].all λk=>[0,1,2].all λa=>bz 20 (g8 r t k a) (g8 r t k a))=true:=by induction r using aee<;>induction t using aee<;>kernel_rfl
theorem VM (r t:Bool) (k a:Nat):g8 r t k a=g8 r t (min k 5) (min a 2):=by
 have w:∀ k,g8 r t k a=g8 r t k (min a 2):=λk=>by match a with
  |0=>rfl
  |1=>rfl
  |2=>rfl
  |n+3=>rw[Nat.min_eq_right (agt 2 (n+1))];exact match k with
   |0=>rfl
   |1=>rfl
   |2=>rfl
   |3=>rfl
   |4=>rfl
   |b+5=>rfl
 rw[w k];match k with
 |0=>rfl
 |1=>rfl
 |2=>rfl
 |3=>rfl
 |4=>rfl
 |n+5=>rw[Nat.min_eq_right (agt 5 n)];rfl
theorem le5 (h:k<=5):k∈[0,1,2,3,4,5]:=agF.mpr (ahn h)
theorem le2 (h:k<=2):k∈[0,1,2]:=agF.mpr (ahn h)
theorem Ll (r t:Bool) (k a:Nat):bz 20 (g8 r t k a) (g8 r t k a)=true:=by
 rw[VM];exact aeB.mp (aeB.mp (Xy r t) _ (le5 (Nat.min_le_right k 5))) _ (le2 (Nat.min_le_right a 2))
theorem Ci (H:gp r t tok) (k:Nat):kB (tok k)=true:=by
 by_cases h:k=9
 ·rw[h];exact dD Lk _ H.c
 ·exact dD (Lj r t) _ (H.all k h)
theorem Lm (H:gp r t tok) (f k:Nat):bz 20 (yS tok bl dm f k) (yS tok bl dm f k)=true:=by
 have w:=Ci H k;unfold yS;split
 ·exact oh w (.head _)
 ·exact oh w (.tail _ (.head _))
 ·exact oh w (.tail _ (.tail _ (.head _)))
 ·exact oh w (.tail _ (.tail _ (.tail _ (.head _))))
 ·exact oh w (.tail _ (.tail _ (.tail _ (.tail _ (.head _)))))
 ·exact gG.mpr rfl
 ·exact beq_self_eq_true _
 ·unfold yR;split
  ·exact beq_self_eq_true _
  ·exact Ll _ _ _ _
 ·rfl
theorem M1{r t:Bool}(H:gp r t tok):Cr (ba prog w sl tok bl dm cond src os):=
 gok (λf k st=>Xx (Lm H f k)) (λn=>⟨bl n,rfl⟩) (λf k n=>Rz (Lm H f k)) (λk=>aaY (ad9.mp (ad9.mp (Ci H k)).2).2) (λk=>(TV (ad9.mp (ad9.mp (Ci H k)).2).1).imp λa e=>congrArg O.hl e) (λk=>⟨_,rfl⟩)
end
section
noncomputable def Cx.to(c:Cx W)(a:Wd):Cx a:=⟨c.A₀,c.base,c.outer,c.h₀,c.L,c.bF,c.env,c.comp,c.ax⟩
theorem VR.swap (m:d.K=T.K):∀ {v:aec}{a:O},bz n a a=true->VR T α N v a->VR d α N v a:=by
 induction n with
 |zero=>exact λh=>nomatch h
 |succ n o=>
  intro v a h;have j:∀ {g:List aec}{l:List O},mL (bz n) l l=true->ah T α N g l->ah d α N g l:=λh p=>ah.ind (P:=λg l=>(∀ a∈l,bz n a a=true)->ah d α N g l) (λc=>.nil) (λq c r h=>.cons (o (h _ (.head _)) q) (r λa s=>h a (.tail _ s)))
   (λc c c c h=>absurd (so (h _ (.head _))) aeP) (λc c c h=>absurd (so (h _ (.head _))) aeP) p (v7 h)
  exact vG (P:=λa=>VR T α N v a->VR d α N v a) (VR.VW (M:=λv c=>VR d α N v .none) .none) (λb=>VR.VX (M:=λv c=>VR d α N v (.bool b)) (.bool b)) (λi=>VR.XT (M:=λv c=>VR d α N v (.int i)) (.int i)) (λx=>VR.XU (M:=λv c=>VR d α N v (.str x)) λt u=>.str t u)
   (λl hl=>VR.XW (M:=λv c=>VR d α N v (.tup l)) (λe f k w y=>.tup e f k w (j hl y)) (λe f=>.tupK (m▸e) (j hl f))) (λl hl=>VR.xe (M:=λv c=>VR d α N v (.hl l)) λe f k=>.hl e f (j hl k)) h
theorem Eb:∀ x,x∈bE r t n->x∈bE r t (n+1):=by
 induction n with
 |zero=>exact λx a=>aef _ a
 |succ n b=>
  intro x a;rcases aeH.mp (show x∈fBase t++(bE r t n).flatMap (Le r) from a) with h|h
  ·exact aef _ h
  ·refine Y (List.mem_flatMap.mp h) ?_;clear h;intro y c d;exact aek _ (List.mem_flatMap.mpr (ay y (b y c) d))
theorem Cj (a:x∈bE r t 2):kB x=true:=dD (Lj r t) x a
theorem adC (a:x∈bE r t 1):kB x=true:=Cj (Eb _ a)
theorem aaZ(h:x∈gI):kB x=true:=dD Lk x h
noncomputable def tokOf(fs ins:List Fm)(o cn:Fm)(k:Nat):Fm:=match k with
 |0=>(fs[0]?).getD fU
 |1=>(fs[1]?).getD fU
 |2=>(ins[0]?).getD fU
 |3=>(ins[1]?).getD fU
 |4=>o
 |9=>cn
 |_=>fU
noncomputable def adD(s1 s2:Bool)(k:Nat):Bool:=match k with
 |0=>s1
 |_=>s2
theorem Bd:fU∈bE r t n:=by
 induction n using aez with
 |zero=>exact .head _
 |succ n=>exact aef _ (.head _)
theorem getD_in{l:List Fm}{r t:Bool}(h:∀ x∈l,x∈bE r t 2)(i:Nat):(l[i]?).getD fU∈bE r t 2:=by
 induction q:l[i]? using aer with
 |none=>exact Bd
 |some x=>exact h x (aeM q)
theorem TX{r t:Bool}{o cn:Fm}(a:∀ x∈fs,x∈bE r t 2)(b:∀ x∈ins,x∈bE r t 2)(c:o∈bE r t 1)(d:cn∈gI):gp r t (tokOf fs ins o cn):=by
 refine⟨λk hk=>?_,d⟩
 unfold tokOf;split
 ·exact getD_in a _
 ·exact getD_in a _
 ·exact getD_in b _
 ·exact getD_in b _
 ·exact Eb _ c
 ·exact absurd rfl hk
 ·exact Bd
noncomputable def Ck:Nat->Fm:=λk=>match k with
 |9=>fO
 |_=>fU
theorem VN:gp false false Ck:=by
 refine⟨λk hk=>?_,.head _⟩
 unfold Ck;split
 ·exact absurd rfl hk
 ·exact Bd
noncomputable def iY(k:Nat):O:=.hl [.ty 0 k,.ty 1 k]
noncomputable def rW (a:List (Str×O)):Tr:=Tr.set (.dict a) 10 (Tr.set .any 10 (Tr.set .any 10 ia.st 5) 6) 7
noncomputable def eG (loc:List (Nat×O))(a:List (Str×O)):LS:=⟨loc,[],rW a,8,0,[]⟩
noncomputable def lF:List (Nat×O):=[(2,.ref 7),(1,.ref 4)]
noncomputable def M2 (r t:Bool) (a:List (Str×O)):LS:=⟨lF,[],pG (.cell (some (j9 r t))) (.dict a),8,0,[]⟩
variable{prog:ae0}{w:afh}{sl:KX}{tok Cn:Nat->Fm}{bl OF:Nat->Bool}{dm OG:Dm}{cond Ln:Nat->Bool}{src:List (aep×List aec)}{os:afn}
theorem lq.to(T:lq W p a b c h)(e:d.prog.given.tree=W.prog.given.tree):lq d p a b c h:=⟨T.toTopRead,T.seer,e.trans T.tree⟩
theorem ak.toT{c:Cx (ba prog w sl tok bl dm cond src os)}(h:ak c){r t:Bool}(H:gp r t Cn):ak (c.to (ba prog w sl Cn OF OG Ln src os)):=
 ⟨M1 H,h.aZ,h.lim,h.below,h.kind,h.kY,h.frame,h.iE,h.qA,h.locs,((gH (h.top) λp l a b T=>(nU p l a b (T.to rfl)))),h.cV,h.kZ,((gH (h.lr) λp l a b T=>(nU p l a b (T.to rfl)))),h.mT,h.uw,h.cin,h.nk⟩
theorem aP.toT (h:aP c d A):aP (c.to (ba prog w sl Cn OF OG Ln src os)) d A:=⟨h.frames,h.depth,h.units,h.handled⟩
theorem aa0 (h:kB x=true):bz 20 x.w x.w=true/\bz 20 x.t x.t=true:=⟨oh h (f:=0) (.head _),oh h (f:=1) (.tail _ (.head _))⟩
theorem sC (b:a.K=T.K) (c:kB x=true) (i:a.θ 0 k=x.w) (j:a.θ 1 k=x.t) (h:VR T α N v (dy x)):VR a α N v (iY k):=by
 refine ae (aa0 c) ?_;clear c;intro w d;refine VR.xe (M:=λv y=>VR a α N v (iY k)) (λl m f=>?_) h
 refine aH (f.cj (so w)) ?_;clear f;intro n z e o g;refine aH (g.cj (so d)) ?_;clear g;intro p A q r s;have t:VR a α N n (a.θ 0 k):=i▸o.swap b w;have u:VR a α N p (a.θ 1 k):=j▸r.swap b d;exact .hl l m (by rw[e,q,s.nil_inv];exact .cons (.ty t) (.cons (.ty u) .nil))
end
structure Kn where
 cq:Nat->Option Bool
 tq:Nat->Nat->Option O
noncomputable def fX (a:O):O:=et a (λb v=>v) a
noncomputable def exQ (b:O) (l:List O) (o:Option Bool):List O:=aeT (b::l) (λq=>aen l (fX b::l) q) o
noncomputable def OH (o:Option Bool) (b:O) (l:List O) (s:Bool):List O:=aen (b::l) (exQ b l o) s
noncomputable def OJ (K:Kn) (a b:O) (l:List O):List O:=et a (λc v=>OH (K.cq c) b l v.sure) (b::l)
noncomputable def nH (K:Kn) (f k:Nat):O:=aeT (.ty f k) (λx=>x) (K.tq f k)
noncomputable def ex (K:Kn):O->O:=O.rec (motive_1:=λd=>O) (motive_2:=λd=>List O)
 .none .bool .int .str (λd l=>.tup l) (λd l=>.hl l) (λc d b=>.may c b) .ref .glob (nH K) (λf d b=>.ck f b) .bY .bR .fk
 [] (λa d b l=>OJ K a b l)
noncomputable def dc (K:Kn) (l:List O):List O:=O.rec_1 (motive_1:=λd=>O) (motive_2:=λd=>List O)
 .none .bool .int .str (λd l=>.tup l) (λd l=>.hl l) (λc d b=>.may c b) .ref .glob (nH K) (λf d b=>.ck f b) .bY .bR .fk
 [] (λa d b l=>OJ K a b l) l
theorem TY(h:a.sure=true):sF a:=by
 rcases fD a with⟨c,v,rfl⟩|b
 ·exact aX h
 ·exact b
theorem TZ (h:sF a):a.sure=true:=(show a.sure=et a (λb b=>false) true by induction a using O.casesOn<;>rfl).trans (h _ _)
theorem vH{K:Kn}{l:List O}(h:a.sure=true):dc K (a::l)=ex K a::dc K l:=TY h _ _
theorem Ae{K:Kn}{l:List O}:dc K (.may c a::l)=OH (K.cq c) (.may c (ex K a)) (dc K l) a.sure:=rfl
structure ey(T:KT)(K:Kn):Prop where
 c:∀ i b,K.cq i=some b->T.cond i=b
 t:∀ f k x,K.tq f k=some x->T.θ f k=x
 s:∀ f k x,K.tq f k=some x->x.sure=true
theorem AE (K:Kn)(f k:Nat):nH K f k=.ty f k\/∃ x,K.tq f k=some x/\nH K f k=x:=by
 unfold nH;induction K.tq f k using aer with
 |none=>exact .inl rfl
 |some x=>exact .inr (ay x rfl rfl)
theorem Af{T:KT}{K:Kn}(H:ey T K){a:O}(h:a.sure=true):(ex K a).sure=true:=by
 induction a using O.casesOn with
 |ty f k=>
  show(nH K f k).sure=true;rcases AE K f k with e|⟨x,e,b⟩
  ·rw[e];rfl
  ·rw[b];exact H.s f k x e
 |may c d=>exact aX h
 |_=>rfl
theorem GZ{T:KT}{K:Kn}(H:ey T K){c:Nat}{v av vs a}(e:T.cond c=true) (d:av.sure=true) (q:VR T α N v (Eng.ex K av)) (r:ah T α N vs (dc K a)):ah T α N (v::vs) (dc K (.may c av::a)):=by
 rw[Ae,d];induction f:K.cq c using aer with
 |none=>exact .yes e q r
 |some b=> obtain rfl:true=b:=e.symm.trans (H.c _ _ f);exact .cons q r
theorem Lo{T:KT}{K:Kn}(H:ey T K){c:Nat}{av vs a}(e:T.cond c=false)(r:ah T α N vs (dc K a)):ah T α N vs (dc K (.may c av::a)):=by
 rw[Ae];induction av.sure using aee with
 |false=>exact .no e r
 |true=>induction d:K.cq c using aer with
  |none=>exact .no e r
  |some b=> obtain rfl:false=b:=e.symm.trans (H.c _ _ d);exact r
theorem Xz{T:KT}{K:Kn}(H:ey T K){α N f k v}(q:VR T α N v (T.θ f k)):VR T α N v (nH K f k):=by
 rcases AE K f k with e|⟨x,e,a⟩
 ·rw[e];exact .ty q
 ·rw[a,←H.t f k x e];exact q
theorem G0{T:KT}{K:Kn}(H:ey T K){α N f k v}(q:VR T α N v (nH K f k)):VR T α N v (.ty f k):=by
 rcases AE K f k with e|⟨x,e,a⟩
 ·rw[e]at q;exact q
 ·rw[a,←H.t f k x e]at q;exact .ty q
theorem VR.ex{T:KT}{K:Kn}(H:ey T K){α N v a}(h:VR T α N v a):VR T α N v (Eng.ex K a):=
 VR.rec (motive_1:=λv a b=>VR T α N v (Eng.ex K a)) (motive_2:=λv a b=>ah T α N v (dc K a)) .none .bool .int .str (λc d g i b r=>.tup c d g i r) (λc b r=>.tupK c r) (λc d b r=>.hl c d r) .ref .glob (λq b=>Xz H q) (λc d b r=>.ck c d r) .bY .bR .fk .nil (λq b f r=>by rw[vH (i6 q)];exact .cons f r) (λe q b f r=>GZ H e (i6 q) f r) (λe b r=>Lo H e r) h
theorem ah.ex{T:KT}{K:Kn}(H:ey T K){α N v a}(h:ah T α N v a):ah T α N v (dc K a):=
 ah.ind (P:=λv a=>ah T α N v (dc K a)) .nil (λq b r=>by rw[vH (i6 q)];exact .cons (VR.ex H q) r) (λe q b r=>GZ H e (i6 q) (VR.ex H q) r) (λe b r=>Lo H e r) h
theorem Gc{T:KT}{K:Kn}(H:ey T K){α N a l}(f:∀ v,VR T α N v (Eng.ex K (fX a))->VR T α N v (fX a)) (d:∀ vs,ah T α N vs (dc K l)->ah T α N vs l) (vs) (h:ah T α N vs (dc K (a::l))):ah T α N vs (a::l):=by
 rcases fD a with⟨c,x,rfl⟩|m
 ·rw[Ae]at h;have g:ah T α N vs (.may c (Eng.ex K x)::dc K l)->ah T α N vs (.may c x::l):=λo=>by
   rcases o.pZ with⟨e,v,n,rfl,q,r⟩|⟨e,r⟩
   ·exact .yes e (f v q) (d _ r)
   ·exact .no e (d _ r)
  induction b:x.sure using aee with
  |false=>rw[b]at h;exact g h
  |true=>
   rw[b]at h;induction e:K.cq c using aer with
   |none=>rw[e]at h;exact g h
   |some q=>
    rw[e]at h;induction q using aee with
    |false=>exact .no (H.c _ _ e) (d _ h)
    |true=>
     refine aH (ah.cj (a:=Eng.ex K x) (l:=dc K l) h (Af H b)) ?_;clear g;intro v n i j k;subst i;exact .yes (H.c _ _ e) (f v j) (d _ k)
 ·have b:=TZ m;rw[vH b]at h;refine aH (h.cj (Af H b)) ?_;clear h H b;intro v n i j k;subst i;have q:=f v;rw[show fX a=a from m _ _]at q;exact .cons (q j) (d _ k)
theorem G1{T:KT}{K:Kn}(H:ey T K){α N}:(∀ (a:O) v,VR T α N v (Eng.ex K (fX a))->VR T α N v (fX a))/\∀ (l:List O) vs,ah T α N vs (dc K l)->ah T α N vs l:=by
 have s:∀ (l:List O),(∀ vs,ah T α N vs (dc K l)->ah T α N vs l)->∀ v,VR T α N v (.tup (dc K l))->VR T α N v (.tup l):=λl e v h=>by
  rcases h.inv with⟨a,o,vs,n,rfl,g,j,w,y,r⟩|⟨a,vs,n,A,rfl,g,r⟩
  ·exact .tup g j w y (e _ r)
  ·exact .tupK g (e _ r)
 have i:∀ (l:List O),(∀ vs,ah T α N vs (dc K l)->ah T α N vs l)->∀ v,VR T α N v (.hl (dc K l))->VR T α N v (.hl l):=λl e v h=>by
  refine gC h.inv ?_;intro a vs n k g j r;subst k;exact .hl g j (e _ r)
 have m:∀ (a:O),(∀ v,VR T α N v (Eng.ex K (fX a))->VR T α N v (fX a))->∀ v,VR T α N v (Eng.ex K a)->VR T α N v a:=λa e v h=>by
  rcases fD a with⟨c,x,rfl⟩|z
  ·exact ((show VR T α N v (.may c (Eng.ex K x)) from h).inv:False).elim
  ·have q:=e v;rw[show fX a=a from z _ _]at q;exact q h
 have t:∀ f (a:O),(∀ v,VR T α N v (Eng.ex K (fX a))->VR T α N v (fX a))->∀ v,VR T α N v (.ck f (Eng.ex K a))->VR T α N v (.ck f a):=λf a e v h=>by
  refine eI h.inv ?_;intro b u k g j r;subst k;exact .ck g j (m a e _ r)
 exact⟨O.rec (motive_1:=λa=>∀ v,VR T α N v (Eng.ex K (fX a))->VR T α N v (fX a)) (motive_2:=λl=>∀ vs,ah T α N vs (dc K l)->ah T α N vs l) (λd h=>h) (λd d h=>h) (λd d h=>h) (λd d h=>h) s i (λd a e=>m a e) (λd d h=>h) (λd d h=>h) (λd d d h=>G0 H h) t (λd d d h=>h) (λd h=>h) (λd d h=>h) (λd h=>h) (λd d p i=>Gc H p i),
  O.rec_1 (motive_1:=λa=>∀ v,VR T α N v (Eng.ex K (fX a))->VR T α N v (fX a)) (motive_2:=λl=>∀ vs,ah T α N vs (dc K l)->ah T α N vs l) (λd h=>h) (λd d h=>h) (λd d h=>h) (λd d h=>h) s i (λd a e=>m a e) (λd d h=>h) (λd d h=>h) (λd d d h=>G0 H h) t (λd d d h=>h) (λd h=>h) (λd d h=>h) (λd h=>h) (λd d p i=>Gc H p i)⟩
theorem ah.un{T:KT}{K:Kn}(H:ey T K){α N}(l:List O){v}(h:ah T α N v (dc K l)):ah T α N v l:=(G1 H).2 l v h
theorem VR.un{T:KT}{K:Kn}(H:ey T K){α N}(a:O){v}(h:VR T α N v (Eng.ex K a)):VR T α N v a:=by
 rcases fD a with⟨c,x,rfl⟩|b
 ·exact ((show VR T α N v (.may c (Eng.ex K x)) from h).inv:False).elim
 ·have q:=(G1 H (α:=α) (N:=N)).1 a v;rw[show fX a=a from b _ _]at q;exact q h
noncomputable def jP (K:Kn) (l:List (Str×O)):List (Str×O):=aeC [] (λe b a=>(e.1,ex K e.2)::a) l
noncomputable def l4 (K:Kn) (o:AO):AO:=AO.casesOn (motive:=λb=>AO) o (λl=>.list (dc K l)) (λl=>.dict (jP K l)) (λC l=>.obj C (jP K l)) .own (λv=>.cell (aeT none (λa=>some (ex K a)) v)) .src .any .tab
theorem aU.ex{T:KT}{K:Kn}(H:ey T K){α N v a}(h:aU T α N v a):aU T α N v (jP K a):=aU.ind (P:=λv a=>aU T α N v (jP K a)) .nil (λq b r=>.cons (VR.ex H q) r) h
theorem bM.ex{P:Params}{K:Kn}(H:ey T K){α N a}:∀ {v},bM P T α N v a->bM P T α N v (jP K a):=by
 induction a with
 |nil=>intro v h;rw[h.nil_inv];exact .nil
 |cons p a b=> intro v h;refine cg (bM.cj (x:=p.1) (av:=p.2) h) ?_;clear h;intro t w d c q r;subst c;exact .cons (VR.ex H q) (b r)
theorem OR.ex{W:Wd}{K:Kn}(H:ey W.kt K){α N i o ao}(h:OR W α N i o ao):OR W α N i o (l4 K ao):=by
 induction h using OR.casesOn with
 |list r=>exact .list (ah.ex H r)
 |dict e r=>exact .dict e (aU.ex H r)
 |obj e h m r=>exact .obj e h m (bM.ex H r)
 |own=>exact .own
 |cell e h=>exact .cell e (VR.ex H h)
 |mo e=>exact .mo e
 |src a b=>exact .src a b
 |any=>exact .any
 |tab c a b=>exact .tab c a b
noncomputable def Tr.lG (g:AO->AO) (t:Tr):Tr:=Tr.rec (motive:=λa=>Tr) .em (λo=>.lf (g o)) (λm a a l r=>.nd m l r) t
theorem zP{g:AO->AO}{t:Tr}:(t.lG g).get i=(t.get i).map g:=by
 induction t with
 |em=>rfl
 |lf o=>rfl
 |nd m l r a b=> show (Tr.nd m (l.lG g) (r.lG g)).get i=_;rw[nV,nV,a,b];exact (apply_ite (Option.map g) _ _ _).symm
theorem VO{g:AO->AO}(h:fm d b t):fm d b (t.lG g):=by
 induction h with
 |em=>exact .em
 |lf=>exact .lf
 |nd e f a c=>exact .nd a c
noncomputable def kC (K:Kn) (σ:LS):LS:=LS.rec (motive:=λa=>LS) (λl c t n lo m=>⟨l,c,t.lG (l4 K),n,n,m⟩) σ
theorem sW{K:Kn}{σ:LS}:kC K σ=⟨σ.loc,σ.aK,σ.st.lG (l4 K),σ.n,σ.n,σ.mark⟩:=by induction σ using LS.casesOn;rfl
theorem SR.kC{W:Wd}{c:Cx W}{K:Kn}(H:ey W.kt K){σ:LS}{s:aeg}{α N}(R:SR c σ s α N):SR c (Eng.kC K σ) s α N:=by
 rw[sW];refine⟨R.fr,R.aK,R.news,R.nodup,R.inj,λi o hi e=>?_,R.all,R.hi,VO R.wf,R.bD,R.len,aeu _,R.bt,R.gens,R.os,R.aZ⟩
 have d:(σ.st.lG (l4 K)).get i=some o:=e;rw[zP]at d;induction q:σ.st.get i using aer with
 |none=>rw[q]at d;exact aT d
 |some f=> rw[q]at d;have k:=aea d;clear d;subst o;refine aH (R.obj i f hi q) ?_;clear R hi q;intro a b g h j;exact (bB a b g h (j.ex H))
theorem aU.un{T:KT}{K:Kn}(H:ey T K){α N}(l:List (Str×O)):∀ {v},aU T α N v (jP K l)->aU T α N v l:=by
 induction l with
 |nil=>exact λh=>h
 |cons p l a=> intro v h;refine aH (aU.cj (x:=p.1) (av:=Eng.ex K p.2) (abs:=jP K l) h) ?_;clear h;intro w c b q r;subst b;exact .cons (VR.un H p.2 q) (a r)
theorem bM.un{P:Params}{K:Kn}(H:ey T K){α N}(l:List (Str×O)):∀ {v},bM P T α N v (jP K l)->bM P T α N v l:=by
 induction l with
 |nil=>exact λh=>h
 |cons p l a=> intro v h;refine cg (bM.cj (x:=p.1) (av:=Eng.ex K p.2) (aes:=jP K l) h) ?_;clear h;intro t w c b q r;subst b;exact .cons (VR.un H p.2 q) (a r)
theorem OR.un{W:Wd}{K:Kn}(H:ey W.kt K){α N i o}{ao:AO}(h:OR W α N i o (l4 K ao)):OR W α N i o ao:=by
 induction ao using AO.casesOn with
 |list l=>
  refine be ((show OR W α N i o (.list (dc K l)) from h).inv) ?_;intro k n b r;subst b;exact .list (ah.un H l r)
 |dict l=>
  refine Y ((show OR W α N i o (.dict (jP K l)) from h).inv) λm e r=>?_
  exact .dict e (aU.un H l r)
 |obj C l=>
  refine ir ((show OR W α N i o (.obj C (jP K l)) from h).inv) ?_;intro j d p n b c f g r;subst b;exact .obj c f g (bM.un H l r)
 |cell v=>
  induction v using aer with
  |some a=>
   refine Y ((show OR W α N i o (.cell (some (Eng.ex K a))) from h).inv) λu e r=>?_
   exact .cell e (VR.un H a r)
  |none=>exact h
 |_=>exact h
theorem SR.unW{W:Wd}{c:Cx W}{K:Kn}(H:ey W.kt K){s:aeg}{α N}(d:Wf 10 σ.st) (f:σ.lo<=σ.n) (R:SR c (Eng.kC K σ) s α N):SR c σ s α N:=by
 rw[sW]at R;refine⟨R.fr,R.aK,R.news,R.nodup,R.inj,λi o hi e=>?_,R.all,R.hi,d,R.bD,R.len,f,R.bt,R.gens,R.os,R.aZ⟩
 refine aH (R.obj i (l4 K o) hi (by show (σ.st.lG (l4 K)).get i=_;rw[zP,e];rfl)) ?_;clear R hi e;intro a b g h j
 exact (bB a b g h (j.un H))
noncomputable def nI (n:Nat):O->O->Bool:=afX (motive:=λd=>O->O->Bool) (λd d=>false) (λd e a b=>match a with
 |.none=>(match b with|.none=>true|_=>false)
 |.bool x=>(match b with|.bool y=>x ==y|_=>false)
 |.int x=>(match b with|.int y=>decide (x=y)|_=>false)
 |.str x=>(match b with|.str y=>seq x y|_=>false)
 |.tup l=>(match b with|.tup r=>mL e l r|_=>false)
 |.hl l=>(match b with|.hl r=>mL e l r|_=>false)
 |.may c x=>(match b with|.may g y=>and (aem c g) (e x y)|_=>false)
 |.ref i=>(match b with|.ref j=>aem i j|_=>false)
 |.glob i=>(match b with|.glob j=>aem i j|_=>false)
 |.ty f k=>(match b with|.ty h m=>and (aem f h) (aem k m)|_=>false)
 |_=>false) n
theorem XA:∀ {a b:O},nI n a b=true->a=b:=by
 induction n with
 |zero=>intro a b h;exact aX h
 |succ n g=>
  intro a b h;have j:∀ {l r:List O},mL (nI n) l r=true->l=r:=by
   intro l;induction l with
   |nil=>intro r h;exact (sU h).symm
   |cons a l m=>
    intro r h;refine aH (me h) ?_;intro b t o d e;subst o;rw[g d,m e]
  induction a using O.casesOn with
  |none=>induction b using O.casesOn<;>first|rfl|exact aX h
  |bool x=>induction b using O.casesOn<;>first|exact aX h|exact congrArg _ (beq_iff_eq.mp (show (x ==_)=true from h))
  |int x=>induction b using O.casesOn<;>first|exact aX h|exact congrArg _ (of_decide_eq_true (show decide (x=_)=true from h))
  |str x=>induction b using O.casesOn<;>first|exact aX h|exact congrArg _ (gG.mp (show seq x _=true from h))
  |tup l=>
   induction b using O.casesOn<;>try exact aX h
   rw[j (show mL (nI n) l _=true from h)]
  |hl l=>
   induction b using O.casesOn<;>try exact aX h
   rw[j (show mL (nI n) l _=true from h)]
  |may c x=>
   induction b using O.casesOn<;>try exact aX h
   rename_i p y;refine ae (ad9.mp (show and (aem c p) (nI n x y)=true from h)) λd e=>?_
   rw[aed d,g e]
  |ref i=>induction b using O.casesOn<;>first|exact aX h|exact congrArg _ (aed h)
  |glob i=>induction b using O.casesOn<;>first|exact aX h|exact congrArg _ (aed h)
  |ty f k=>
   induction b using O.casesOn<;>try exact aX h
   rename_i q s;refine ae (ad9.mp (show and (aem f q) (aem k s)=true from h)) λd e=>?_
   rw[aed d,aed e]
  |_=>exact aX h
structure Fl where
 nf:Bool
 lo:Bool
 sf:Bool
structure Dq where
 nf:Nat
 lo:Bool
 sf:Nat
noncomputable def lI{α:Type}(b:Bool)(x:α):Option α:=match b with
 |true=>some x
 |false=>none
noncomputable def DF (fl:Fl)(d:Dq)(c:Nat):Option Bool:=match c with
 |2=>lI fl.lo d.lo
 |3=>lI fl.sf (afl 0 d.sf)
 |4=>lI fl.nf (afl 0 d.nf)
 |5=>lI fl.nf (afl 1 d.nf)
 |_=>none
noncomputable def ve (r t:Bool)(fl:Fl)(d:Dq)(f k:Nat):Option O:=match f with
 |5=>lI fl.sf (.str (iX d.sf))
 |20=>(match aem k 5 with
  |true=>lI fl.lo (.bool d.lo)
  |false=>lI fl.sf (g8 r t k d.sf))
 |_=>none
noncomputable def kn(r t:Bool)(fl:Fl)(d:Dq):Kn:=⟨DF fl d,ve r t fl d⟩
noncomputable def mN(b:Bool)(n:Nat):Nat:=match b with
 |true=>n
 |false=>0
noncomputable def mB(b x:Bool):Bool:=match b with
 |true=>x
 |false=>false
theorem jZ{α:Type}{x y:α}(h:lI b x=some y):x=y:=by
 unfold lI at h;split at h<;>cases h
 rfl
noncomputable def aa1(d:Dq)(n c:Nat):Bool:=match c with
 |0=>afl 0 n
 |1=>afl 1 n
 |2=>d.lo
 |3=>afl 0 d.sf
 |4=>afl 0 d.nf
 |_=>afl 1 d.nf
theorem T2 (r t:Bool) (k a:Nat):(g8 r t k a).sure=true:=by
 have:bz 20 (g8 r t k a) (g8 r t k a)=true:=Ll r t k a
 cases h:g8 r t k a<;>first|rfl|(rw[h]at this;exact aX this)
section
variable{prog:ae0}{w:afh}{sl:KX}{tok:Nat->Fm}{bl:Nat->Bool}{src:List (aep×List aec)}{os:afn}{r t:Bool}{d:Dq}{ni:Nat}
noncomputable abbrev DG (prog:ae0) (w:afh) (sl:KX) (r t:Bool) (tok:Nat->Fm) (bl:Nat->Bool) (d:Dq) (ni:Nat) (src:List (aep×List aec)) (os:afn):Wd:=ba prog w sl tok bl ⟨r,t,d.nf,d.lo,d.sf⟩ (aa1 d ni) src os
theorem aa2 (fl:Fl):ey (DG prog w sl r t tok bl d ni src os).kt (kn r t fl d):=by
 refine⟨λi b e=>?_,λf k x e=>?_,λf k x e=>?_⟩
 ·have a:DF fl d i=some b:=e;unfold DF at a;split at a
  ·exact jZ a
  ·exact jZ a
  ·exact jZ a
  ·exact jZ a
  ·exact aT a
 ·have a:ve r t fl d f k=some x:=e;unfold ve at a;split at a
  ·exact jZ a
  ·split at a
   ·rename_i q;rw[aed q];exact jZ a
   ·rename_i q;show yR _ k=x;unfold yR;rw[q];exact jZ a
  ·exact aT a
 ·have a:ve r t fl d f k=some x:=e;unfold ve at a;split at a
  ·rw[←jZ a];rfl
  ·split at a
   ·rw[←jZ a];rfl
   ·rw[←jZ a];exact T2 _ _ _ _
  ·exact aT a
end
noncomputable def j3 (b:Bool) (f:Nat->Rs):Rs:=match b with
 |true=>join (f 0) (join (f 1) (f 2))
 |false=>f 0
noncomputable def jB (b:Bool) (f:Bool->Rs):Rs:=match b with
 |true=>join (f true) (f false)
 |false=>f false
noncomputable def Be(fl:Fl)(f:Dq->Rs):Rs:=j3 fl.nf λa=>jB fl.lo λlo=>j3 fl.sf λb=>f ⟨a,lo,b⟩
theorem Lp{f:Nat->Rs}(h:j3 b f=y) (a:y≠.no) (d:n<=2):f (mN b n)=y:=by
 unfold j3 at h;split at h
 ·refine ae (mc h a) λe c=>?_
  refine ae (mc c a) ?_;clear c a;intro c g;have:n=0\/n=1\/n=2:=by omega
  rcases this with rfl|rfl|rfl<;>assumption
 ·exact h
theorem aa3{f:Bool->Rs}(h:jB b f=y) (a:y≠.no) (x:Bool):f (mB b x)=y:=by
 unfold jB at h;split at h
 ·refine ae (mc h a) ?_;clear a;intro c d;induction x using aee<;>assumption
 ·exact h
theorem VP:kn r t fl ⟨mN fl.nf d.nf,mB fl.lo d.lo,mN fl.sf d.sf⟩=kn r t fl d:=by
 obtain ⟨a,b,c⟩:=fl;induction a using aee<;>induction b using aee<;>induction c using aee<;>rfl
theorem T3{f:Kn->Rs}(h:Be fl (λd=>f (kn r t fl d))=y) (a:y≠.no) (b:d.nf<=2) (c:d.sf<=2):f (kn r t fl d)=y:=by
 have q:=Lp (aa3 (Lp h a b) a d.lo) a c;rw[←VP (fl:=fl) (d:=d)];exact q
noncomputable def oF (n:Nat) (w:O):Kv:=λv a=>match aeQ n a.lo with
 |true=>(match fV n v a with
  |.ok r=>(match nI (nat_lit 40) r w with
   |true=>.ok .none
   |false=>.no)
  |_=>.no)
 |false=>.no
theorem Fk(h:oF n w v σ=y)(a:y≠.no):y=.ok .none/\aeQ n σ.lo=true/\fV n v σ=.ok w:=by
 unfold oF at h;split at h
 ·rename_i c;split at h
  ·rename_i r b;split at h
   ·rename_i q;rw[XA q]at b;exact(bH h.symm c b)
   ·exact bO h a
  ·exact bO h a
 ·exact bO h a
theorem T4{prog:ae0}{w:afh}{sl:KX}{tok:Nat->Fm}{bl:Nat->Bool}{cond:Nat->Bool}{os:afn}{r t:Bool}(H:gp r t tok){n:Nat}{g:Call}(q:dv (ba prog w sl tok bl u cond src os) n g):dv (ba prog w sl tok bl u cond src os) (n+1) (qW r t uZ n g):=by
 intro c A j l f i b k y h x s D N E R F z B m o G Q p;have C:eO cQ cR cP g f i b k=y->WP (ba prog w sl tok bl u cond src os) A (afc z B) Q E s:=λh=>pW mK mh q c A j l f i b k y h x s D N E R F z B m o G Q p
 have d:(match tI r t (afb n) f i b with
  |some a=>k a b
  |none=>(match sV f with
   |true=>(match yV (afb n) (eO cQ cR cP g) i b k with
    |some y=>y
    |none=>eO cQ cR cP g f i b k)
   |false=>eO cQ cR cP g f i b k))=y:=h
 split at d
 ·rename_i a I;exact Fi H j l R I m o λv V W L M P=>p _ _ _ _ _ _ d L M P
 ·split at d
  ·rename_i S;have e:=EB S;subst e;split at d
   ·rename_i X T;subst d;exact GV H (pW mK mh q c A j l) j l R T x m o p
   ·exact C d
  ·exact C d
noncomputable abbrev Rt:=O->List O->Option (Fl×O)
noncomputable def XF (r t:Bool) (c:Rt):Ext:=λn e f b a k=>match c f b with
 |none=>none
 |some p=>(match Be p.1 λd=>qW r t uZ n e f (dc (kn r t p.1 d) b) (kC (kn r t p.1 d) a) (oF a.n (ex (kn r t p.1 d) p.2)) with
  |.ok g=>some (k p.2 a)
  |.exc C=>some (.exc C)
  |.no=>none)
theorem zy{K:Kn}(H:ey T K):∀ {l:List O},aeS l=true->aeS (dc K l)=true
 |[],d=>rfl
 |a::l,h=>by refine ae (gB h) ?_;clear h;intro b c;rw[vH b];unfold aeS;rw[ahI,Af H b];exact zy H c
theorem aa4{prog:ae0}{w:afh}{sl:KX}{tok:Nat->Fm}{bl:Nat->Bool}{src:List (aep×List aec)}{os:afn}{r t:Bool}{d:Dq}{ni:Nat}(HT:gp r t tok) (CV:d.nf<=2) (hsf:d.sf<=2){rt:Rt}:w9 (DG prog w sl r t tok bl d ni src os) (XF r t rt):=by
 intro n C hih c qd T hA p u j qe y h hy s D N E R hE V W X Z hp qa hQ;unfold XF at h;split at h
 ·exact aT h
 rename_i qf hrt;obtain ⟨b,x⟩:=qf;dsimp only at h;have H:=aa2 (prog:=prog) (w:=w) (sl:=sl) (tok:=tok) (bl:=bl) (src:=src) (os:=os) (r:=r) (t:=t) (d:=d) (ni:=ni) b;have key:∀ z,Be b (λd=>qW r t uZ n C p (dc (kn r t b d) u) (kC (kn r t b d) j) (oF j.n (ex (kn r t b d) x)))=z->z≠.no->qW r t uZ n C p (dc (kn r t b d) u) (kC (kn r t b d) j) (oF j.n (ex (kn r t b d) x))=z:=λz F G=>T3 (f:=λK=>qW r t uZ n C p (dc K u) (kC K j) (oF j.n (ex K x))) F G CV hsf
 have k:=R.kC H;have uu:=T4 HT hih c qd T hA p (dc (kn r t b d) u) (kC (kn r t b d) j) (oF j.n (ex (kn r t b d) x));split at h
 ·rename_i v0 I;have bj:=aea h;clear h;subst y;have L:=key _ I (by intro h;contradiction)
  refine uu _ L (by intro h;contradiction) s D N E k (λqg e A l B m q=>by contradiction) V W X (ah.ex H Z) (zy H hp) qa λa A v l B m hk M g gW=>?_
  refine bU (Fk hk (by intro h;contradiction)) λP eT hh=>?_
  rw[sW]at k g;refine ae (k.restore M g (aei eT)) ?_;clear eT;intro cA Q;have la:=sg T k M g gW hh;have bW:SR c j l D m:=SR.unW H R.wf R.low (by rw[sW];exact cA)
  refine hQ _ _ _ _ _ _ rfl bW ⟨⟨Q.ge,aeu _,λP P=>rfl,aeu _,rfl,λi a qh S F G nt=>Q.obs i a qh (aej S R.low) F G λqb fb e=>?_,λi S=>⟨rfl,(Q.bf i S).2⟩⟩,rfl⟩ (la.un H)
  have o:(j.st.lG (l4 (kn r t b d))).get i=some qb:=e;rw[zP]at o;induction q:j.st.get i using aer with
  |none=>rw[q]at o;exact aT o
  |some o'=>
   rw[q]at o;have e2:l4 (kn r t b d) o'=qb:=aea o;subst e2;induction o' using AO.casesOn with
   |src qe=>exact nt _ rfl q
   |tab Ct u2_=>exact nt _ rfl q
   |cell v=>induction v using aer<;>exact aX fb
   |_=>exact aX fb
 ·rename_i qg I;have bj:=aea h;clear h;subst y;have L:=key _ I (by intro h;contradiction)
  refine uu _ L (by intro h;contradiction) s D N E k (λC' e A l B m q g qc qi=>?_) V W X (ah.ex H Z) (zy H hp) qa λa A v l B m hk M g gW=>?_
  ·rw[sW]at g qc;exact hE C' e A l B m q ⟨g.ge,g.mark,g.bf⟩ qc qi
  ·refine ae (Fk hk (by intro h;contradiction)) ?_;clear hk;intro e P
   contradiction
 ·exact aT h
noncomputable def pH:O:=j8 [jw dX]
noncomputable def u8T:O:=.tup [.str il,.str dX]
noncomputable def mQ:O:=.tup [.tup [],.tup []]
noncomputable def rv:O:=.tup [.str o7,.int 0,.tup [],.none]
noncomputable def Lq(t:Bool):List O:=match t with
 |true=>[.tup [.str cM,.tup []]]
 |false=>[]
noncomputable def G2 (r t:Bool):O:=j8 [.tup [.str fh,ng r,.tup (match t with|true=>[j8 [jw cM]]|false=>[])]]
noncomputable def vf(x:Str)(a:O):O:=.tup [.str x,a,.bool true]
noncomputable def adE (n:Nat):O:=match n with
 |1=>.tup [vf iP pH,vf iP pH]
 |2=>.tup [vf iP (j8 [jw MF])]
 |3=>.tup [vf iP (j8 [jw o4,jw fJ,.tup [.str o5,.tup [],.tup [pH]]])]
 |4=>.tup [vf iP (.tup [.str s0,.int 0,.str MG,.bool false,pH])]
 |_=>.tup [.may 4 (.tup [.str iP,.ty 0 0,.ty 7 0]),.may 5 (.tup [.str MQ,.ty 0 1,.ty 7 1])]
noncomputable def DH(body:O):O:=.tup [.str gR,.int 0,.str m5,mQ,.ty 5 0,.tup [],.none,body,.bool false]
noncomputable def Lr:O:=.tup [.str gR,.int 0,.str MH,mQ,.none,.tup [],.none,rv,.bool false]
noncomputable def adF(n:Nat)(a:Bool):List O:=match n with
 |5=>(match a with|true=>[Lr]|false=>[DH rv,Lr])
 |_=>(match a with|true=>[]|false=>[DH rv])
noncomputable def Bf:O:=.tup [.str B3,.int 0]
noncomputable def adG (lo:Bool):O:=.tup (.may 0 (.tup [Bf,.ty 0 2])::.may 1 (.tup [Bf,.ty 0 3])::(match lo with|true=>[.tup [Bf,.tup [.str s0,.int 0,.none,.bool false,pH]]]|false=>[]))
noncomputable def yZ(lo:Bool)(x:Str)(g a:O):O:=.tup [.str gR,.int 0,.str x,g,a,adG lo,.ty 0 4,rv,.bool true]
noncomputable def adH (r t lo:Bool):List O:=match and r t with
 |true=>[]
 |false=>[yZ lo ky mQ (.ty 5 0)]
noncomputable def uv (r t:Bool):O:=.tup [ng r,.tup (Lq t)]
noncomputable def adI (n:Nat)(r t:Bool):O:=match n with
 |6=>.tup [ng r,.tup (Lq t++[.tup [.str MI,.tup []]])]
 |_=>uv r t
noncomputable def fQ (n:Nat)(r t lo:Bool):List O:=match n with
 |7=>[yZ lo rq mQ (.str kh)]
 |8=>[yZ lo rq (uv r t) .none,.tup [.str gR,.int 0,.str rq,mQ,.none,.tup [],.none,rv,.bool true]]
 |_=>[yZ lo rq (uv r t) .none]
noncomputable def XB (n:Nat)(r t lo a:Bool):O:=.hl [
 .tup [.str jJ,.int 0,.str fh,uv r t,.str pC,adE n,.bool true],
 .tup [.str gA,.int 0,.str ju,mQ,.tup [DH (match a with|true=>rv|false=>.none)],.bool true],
 .tup [.str xW,.int 0,uv r t,.none,G2 r t,.tup (adH r t lo)],
 .tup [.str xW,.int 0,adI n r t,.tup [.tup [.str ju,.tup [],.tup []]],G2 r t,.tup (adF n a)],
 .tup [.str ue,.int 0,.str uf,.ty 0 9,.tup [.str il,.int 0,.int 1,.none],.bool true],
 .tup [.str kz,.int 0,.str fJ,.tup ([.tup [.str jJ,.int 0,.str B4,mQ,.str pC,.tup [.tup [.str MJ,pH,.bool false]],.bool true], .tup [.str lW,.int 0,.str o5,mQ,.tup [.tup [.str B7,.str B8,.tup []],.tup [.str B5,.str s3,.tup [.tup [.str B6,pH,.bool true]]]],.bool true]]++fQ n r t lo),.bool true]]
noncomputable def aa5(x:Str):Nat:=match seq x di with
 |true=>0
 |false=>(match seq x xQ with
  |true=>1
  |false=>(match seq x xR with
   |true=>2
   |false=>(match seq x xS with
    |true=>3
    |false=>(match seq x xT with
     |true=>4
     |false=>(match seq x xU with
      |true=>5
      |false=>(match seq x xV with
       |true=>6
       |false=>(match seq x xX with
        |true=>7
        |false=>8)))))))
noncomputable def M3:O->Bool:=O.rec (motive_1:=λd=>Bool) (motive_2:=λd=>Bool)
 false (λd=>false) (λd=>false) (λd=>false) (λd b=>b) (λd b=>b) (λc d b=>or (aeQ (nat_lit 2) c) b) (λd=>false) (λd=>false) (λf d=>or (aem f (nat_lit 20)) (aem f (nat_lit 5))) (λd d b=>b) (λd d=>false) false (λd=>false)
 false (λd d a b=>or a b)
noncomputable def OL (lo:Bool)(a:List O)(nm:O)(b:List O)(l:List O)(out:O):O:=match l with
 |[]=>.tup [.tup a,out,.tup b]
 |_=>(match lo with
  |true=>.tup [.tup (a++[.may 0 (.ty 1 2),.may 1 (.ty 1 3),.tup [.str s0,nm,.bool false,u8T]]),out,.tup (b++[nm])]
  |false=>.tup [.tup (a++[.may 0 (.ty 1 2),.may 1 (.ty 1 3)]),out,.tup b])
noncomputable def rtQ (r t lo d:Bool) (f:O) (args:List O):Option (Fl×O):=match f with
 |.glob a=>(match aem (Nat.land (Nat.shiftRight (nat_lit 76746917590869955926638284206271723245069422765162431296614771682689643796331211918148015525680891195720037841523562608474805433382087201871564817909410761247576228734766429741026512531102120636031405739249790447863328055587384038736909627577130148508545762891074460182316451276783616) a) (nat_lit 1)) (nat_lit 1) with
  |false=>none
  |true=>(match a with
   |933=>(match args with
    |[b,.str x]=>some (⟨true,false,false⟩,XB (aa5 x) r t lo d)
    |_=>none)
   |811=>(match args with
    |[b,st,.ty 5 e]=>(match nI 8 st Bb with
     |true=>some (⟨false,false,true⟩,.ty 20 0)
     |false=>(match nI 8 st (AA r t) with
      |true=>some (⟨false,false,true⟩,.ty 20 2)
      |false=>none))
    |_=>none)
   |149=>(match args with
    |[.hl l,c,g,b]=>(match g with
     |.ty 5 b=>(match l with
      |.ty 20 0::l=>some (⟨false,false,true⟩,OL lo [.ty 20 1] (.ty 20 4) [.may 3 (.str h9)] l c)
      |.ty 20 2::l=>some (⟨false,false,true⟩,OL lo [.ty 20 3] (.ty 20 4) [.may 3 (.str h9)] l c)
      |_=>none)
     |_=>none)
    |_=>none)
   |163=>(match args with
    |[h,kn,b]=>(match or (M3 h) (M3 kn) with
     |true=>some (⟨false,false,true⟩,.none)
     |false=>none)
    |_=>none)
   |799=>(match args with
    |[b,e,.tup (.may 4 i::j),k]=>some (⟨true,false,false⟩,.hl [.may 4 (.tup [.str iP,.ty 1 0]),.may 5 (.tup [.str MQ,.ty 1 1])])
    |_=>none)
   |402=>some (⟨false,false,true⟩,.none)
   |943=>some (⟨true,false,false⟩,.bool true)
   |938=>some (⟨false,false,true⟩,.bool true)
   |409=>some (⟨true,false,false⟩,.none)
   |_=>none))
 |_=>none
section
variable{prog:ae0}{w:afh}{sl:KX}{tok:Nat->Fm}{bl:Nat->Bool}{dm:Dm}{cond:Nat->Bool}{src:List (aep×List aec)}{os:afn}
noncomputable abbrev mR (prog:ae0) (w:afh) (sl:KX) (r t:Bool) (fs:List Fm) (s1 s2:Bool) (ins:List Fm) (lo:Bool) (o cn:Fm) (a:Nat) (src:List (aep×List aec)) (os:afn):Wd:=
 DG prog w sl r t (tokOf fs ins o cn) (adD s1 s2) ⟨fs.length,lo,a⟩ ins.length src os
noncomputable def gc (r t lo a:Bool):List (Str×O):=rV r t (.hl [.may 4 (iY 0),.may 5 (iY 1)]) (.hl [.ty 7 0,.ty 7 1]) (.hl [.may 0 (iY 2),.may 1 (iY 3)]) (.bool lo) (iY 4) (iY 9) (.ty 5 0) (.bool a)
theorem vR{σ:LS}{o:AO}(h:Wf 10 σ.st):Wf 10 (σ.push o).st:=by induction σ using LS.casesOn;exact Wf.set h
theorem OM:Wf 10 kA.st:=vR (vR (vR (vR ym)))
theorem adJ:Wf 10 ia.st:=by show Wf 10 (Tr.set (.src 0) 10 kA.st 4);exact Wf.set OM
theorem wfT:Wf 10 (rW a):=Wf.set (Wf.set (Wf.set adJ))
theorem OR.sX(e:o.sX=true)(h:OR W α N i b o):OR g α N i b o:=by
 induction o using AO.casesOn with
 |tab P q=>refine j0 h.inv ?_;intro j w c d f;subst w;exact .tab c d f
 |src k=>refine r9 h.inv ?_;clear h;intro a l t u n w c d;subst w;exact .src c d
 |_=>exact aX e
inductive To (T T':KT) (α:List aep) (N:Led):List (Str×O)->List (Str×O)->Prop
 |nil:To T T' α N [] []
 |cons{x a b l r}:(∀ v,VR T α N v a->VR T' α N v b)->To T T' α N l r->To T T' α N ((x,a)::l) ((x,b)::r)
theorem aU.to (h:To T a α N l r):∀ {bs},aU T α N bs l->aU a α N bs r:=by
 induction h with
 |nil=>exact λh=>h.nil_inv▸.nil
 |cons q e w=> intro bs h;refine aH h.cj ?_;clear h;intro v f b c d;subst b;exact .cons (q v c) (w d)
theorem G3 (g:a.K=T.K) (p:fs.length<=2) (k:∀ x∈fs,kB x=true) (l:a.cond c=afl 0 fs.length) (m:a.cond d=afl 1 fs.length) (b:a.θ 0 i=((fs[0]?).getD fU).w/\a.θ 1 i=((fs[0]?).getD fU).t) (o:a.θ 0 j=((fs[1]?).getD fU).w/\a.θ 1 j=((fs[1]?).getD fU).t) (h:VR T α N v (c9 fs)):VR a α N v (.hl [.may c (iY i),.may d (iY j)]):=by
 refine VR.xe (M:=λv C=>VR a α N v (.hl [.may c (iY i),.may d (iY j)])) (λq r w=>.hl q r ?_) h
 induction fs using aet with
 |nil=>rw [w.nil_inv];exact .no l (.no m .nil)
 |cons x fs=> induction fs using aet with
  |nil=>
  refine aH (w.cj rfl) λs t e n f=>?_
  rw [e,f.nil_inv];exact .yes l (sC g (k x (.head _)) b.1 b.2 n) (.no m .nil)
  |cons y fs=>
  have u:=age.mp (Nat.le_zero.mp (Nat.le_of_succ_le_succ (Nat.le_of_succ_le_succ p)));subst u;refine aH (w.cj rfl) ?_;clear w;intro s t e n f;refine aH (f.cj rfl) ?_;clear f;intro D E z A B;rw [e,z,B.nil_inv];exact .yes l (sC g (k x (.head _)) b.1 b.2 n) (.yes m (sC g (k y (.tail _ (.head _))) o.1 o.2 A) .nil)
theorem XC{T a:KT}(b:a.K=T.K){s1 s2:Bool}(d:a.θ 7 0=.bool s1) (f:a.θ 7 1=.bool s2){v}(h:VR T α N v (.hl [.bool s1,.bool s2])):VR a α N v (.hl [.ty 7 0,.ty 7 1]):=by
 refine VR.xe (M:=λv s=>VR a α N v (.hl [.ty 7 0,.ty 7 1])) (λg i w=>.hl g i ?_) h
 refine aH (w.cj rfl) ?_;clear w;intro j t e k c;refine aH (c.cj rfl) ?_;clear c;intro l u m o p;have q:VR a α N j (a.θ 7 0):=d▸k.swap b (n:=1) (beq_self_eq_true _);have r:VR a α N l (a.θ 7 1):=f▸o.swap b (n:=1) (beq_self_eq_true _);rw [e,m,p.nil_inv];exact .cons (.ty q) (.cons (.ty r) .nil)
theorem aa6{prog w sl tok bl dm cond src os}{r t:Bool}{fs:List Fm}{s1 s2:Bool}{lo:Bool}{o cn:Fm}{b:Nat}{d:Bool}{α N}(e:fs.length<=2) (f:∀ x∈fs,x∈bE r t 2) (g:ins.length<=2) (i:∀ x∈ins,x∈bE r t 2) (j:o∈bE r t 1) (k:cn∈gI): To (ba prog w sl tok bl dm cond src os).kt (mR prog w sl r t fs s1 s2 ins lo o cn b src os).kt α N (rV r t (c9 fs) (.hl [.bool s1,.bool s2]) (c9 ins) (.bool lo) (dy o) (dy cn) (.str (iX b)) (.bool d)) (gc r t lo d):=
 have a:(mR prog w sl r t fs s1 s2 ins lo o cn b src os).kt.K=(ba prog w sl tok bl dm cond src os).kt.K:=rfl;.cons (λv h=>h.swap a (n:=3) (by induction r using aee<;>kernel_rfl)) (.cons (λv h=>h.swap a (n:=3) (by induction t using aee<;>kernel_rfl)) (.cons (λv h=>G3 a e (λx c=>Cj (f x c)) rfl rfl ⟨rfl,rfl⟩ ⟨rfl,rfl⟩ h) (.cons (λv h=>XC a rfl rfl h) (.cons (λv h=>G3 a g (λx c=>Cj (i x c)) rfl rfl ⟨rfl,rfl⟩ ⟨rfl,rfl⟩ h) (.cons (λv h=>h.swap a (n:=1) (beq_self_eq_true _)) (.cons (λv h=>sC a (adC j) rfl rfl h) (.cons (λv h=>sC a (aaZ k) rfl rfl h) (.cons (λv h=>.ty (h.swap a (n:=1) (gG.mpr rfl))) (.cons (λv h=>h.swap a (n:=1) (beq_self_eq_true _)) .nil)))))))))
theorem at8 (b:i<8):(∃ o,o.sX=true/\(∀ a,(rW a).get i=some o)/\∀ c a,(pG c a).get i=some o)\/((∀ a,(rW a).get i=some .any)/\∃ o:Bool->Bool->AO,∀ r t a,(pG (.cell (some (j9 r t))) a).get i=some (o r t))\/(i=7/\(∀ a,(rW a).get 7=some (.dict a))/\∀ c a,(pG c a).get 7=some a):=by
 induction i using aez with
 |zero=>exact .inl ⟨.tab 813 xP,rfl,λw=>by kernel_rfl,λw w=>by kernel_rfl⟩
 |succ i=> induction i using aez with
  |zero=>exact .inl ⟨.tab 146 s9,rfl,λw=>by kernel_rfl,λw w=>by kernel_rfl⟩
  |succ i=> induction i using aez with
   |zero=>exact .inl ⟨.tab 392 yJ,rfl,λw=>by kernel_rfl,λw w=>by kernel_rfl⟩
   |succ i=> induction i using aez with
    |zero=>exact .inl ⟨.tab 302 yH,rfl,λw=>by kernel_rfl,λw w=>by kernel_rfl⟩
    |succ i=> induction i using aez with
     |zero=>exact .inl ⟨.src 0,rfl,λw=>by kernel_rfl,λw w=>by kernel_rfl⟩
     |succ i=> induction i using aez with
      |zero=>exact .inr (.inl (Lu (λw=>by kernel_rfl) (λr t=>.cell (some (j9 r t))) (λw w w=>by kernel_rfl)))
      |succ i=> induction i using aez with
       |zero=>exact .inr (.inl (Lu (λw=>by kernel_rfl) (λw w=>.cell (some (.ref 4))) (λw w w=>by kernel_rfl)))
       |succ i=> induction i using aez with
        |zero=>exact .inr (.inr (bH rfl (λw=>by kernel_rfl) (λw w=>by kernel_rfl)))
        |succ i=> exact absurd b (afk.mpr (agt 8 i))
theorem VQ{c:Cx (ba prog w sl tok bl dm cond src os)}(u:c.comp=none){r t:Bool}{fs:List Fm}{s1 s2:Bool}{ins:List Fm}{lo:Bool}{o cn:Fm}{p:Nat}{y:Bool}{s:aeg}{α N}
  (D:fs.length<=2) (E:∀ x∈fs,x∈bE r t 2) (G:ins.length<=2) (H:∀ x∈ins,x∈bE r t 2) (I:o∈bE r t 1) (L:cn∈gI)
  (R:SR c (M2 r t (rV r t (c9 fs) (.hl [.bool s1,.bool s2]) (c9 ins) (.bool lo) (dy o) (dy cn) (.str (iX p)) (.bool y))) s α N):
  SR (c.to (mR prog w sl r t fs s1 s2 ins lo o cn p src os)) (eG lF (gc r t lo y)) s α N:=by
 refine⟨?_,(λA A e=>nomatch e),R.news,R.nodup,R.inj,(λi z B e=>?_),R.all,R.hi,wfT,aei rfl,R.len,afa _,(λA h=>nomatch h),R.gens,R.os,R.aZ⟩
 ·refine Y R.fr λm F C=>?_
  refine (ay m F ((NR.none (c:=c.to (mR prog w sl r t fs s1 s2 ins lo o cn p src os)) u).mpr λn v e=>?_))
  refine cg ((NR.none u).mp C n v e) ?_;clear u C;intro x k val j l g
  refine (dx x k val j l ?_)
  rcases sR e with⟨_,rfl⟩|⟨_,rfl⟩
  ·refine Y g.inv λa f d=>?_;exact f▸.ref d
  ·refine Y g.inv λa f d=>?_;exact f▸.ref d
 ·have q:=λz (e:(pG (.cell (some (j9 r t))) (.dict (rV r t (c9 fs) (.hl [.bool s1,.bool s2]) (c9 ins) (.bool lo) (dy o) (dy cn) (.str (iX p)) (.bool y)))).get i=some z)=>R.obj i z B e
  rcases at8 B with⟨x,M,f,d⟩|⟨f,x,d⟩|⟨rfl,f,d⟩
  ·obtain rfl:=aea ((f _).symm.trans e)
   refine aH (q x (d _ _)) λa b j l g=>?_
   exact (bB a b j l (g.sX M))
  ·obtain rfl:=aea ((f _).symm.trans e)
   refine aH (q _ (d _ _ _)) λa b j l g=>?_
   exact (bB a b j l .any)
  ·obtain rfl:=aea ((f _).symm.trans e)
   refine aH (q _ (d _ _)) ?_;clear q d;intro a b j l g
   refine Y g.inv ?_;clear g;intro S P Q
   exact (bB a b j l (.dict P (Q.to (aa6 D E G H I L))))
end
noncomputable def L2 (k:Call):Sc:=(aC (aq 2) (az k 916 (U [J 1])))
noncomputable def L3 (k:Call):Sc:=(aC (aq 3) (az k 870 (U [az (bc k) 933 (U [J 2,wS di])])))
noncomputable def L4 (k:Call):Sc:=(aB (bI (eZ (cF (az (bc k) 943 (U [J 3,J 2])))) (bI (eZ (cF (az (bc k) 948 (U [J 3,J 2])))) dP)) (ag [aG (bp false)]) aF)
noncomputable def L5 (k:Call):Sc:=(aC (aq 4) (aY (U [ai (U [wS xQ,cC (.glob 52)]),ai (U [wS xR,cC (.glob 52)]),ai (U [wS xS,cC (.glob 76)]),ai (U [wS xT,cC (.glob 52)]),ai (U [wS xU,cC (.glob 88)]),ai (U [wS xV,cC (.glob 100)]),ai (U [wS xX,cC (.glob 52)]),ai (U [wS B9,cC (.glob 52)])])))
noncomputable def L6 (k:Call):Sc:=(aC (cz 2 (aV (aq 5) (aV (aq 6) bL))) (az k 891 (U [J 1,J 4])))
noncomputable def L8 (k:Call):Sc:=(aC (aq 7) (ai (U [wS gA,wI 0,wS MO,cC (.tup [.tup [],.tup []]),ai (U [ai (U [wS gR,wI 0,wS MP,cC (.tup [.tup [],.tup []]),wS s0,ai aI,wZ,wZ,bp false])]),bp true])))
noncomputable def L9 (k:Call):Sc:=(aC (aq 8) (af (aw [668,690] g7 (af (aw [719] rP (az k 870 (U [aY (U [J 7])]))) (wS MO))) (wS MP)))
noncomputable def ON (k:Call):Sc:=(aG (oM (c0 .Eq (aQ bJ (U [aw [647] fx (J 8)])) (ai (U [ai (U [wS s0,wS h9,bp false,ai (U [wS fu,wS kx])])]))) (c0 .Eq (aQ bJ (U [aw [626,647,690,752] eA (J 8)])) (ai (U [wS h9])))))
noncomputable def y3 (kr k:Call):Sc:=aB (eZ (cF (az kr 955 (U [az (bc k) 933 (U [J 2,J 5]),J 6])))) (ag [aG (bp false)]) aF
noncomputable abbrev GL(k:Call)(d:Nat):Gm:=⟨fG.scope.names,k,d,none,false⟩
noncomputable def sL (i:Nat):Stmt:=(fG.body[i]?).getD (.Pass ⟨0,0,0,0⟩)
theorem T5:fG.body=[sL 0,sL 1,sL 2,sL 3,sL 4,sL 5,sL 6,sL 7,sL 8,sL 9]:=by kernel_rfl
theorem ll (gx:GX W){L:Call->Sc}(h:∀ (W:Wd) (gx:GX W) k d,((cm gx aW fuel (GL k d)).s (sL i)).1=L k):JS W (GL k d) (sL i) (L k):=h W gx k d▸((cm gx aW fuel (GL k d)).s (sL i)).2
section
variable{W:Wd}(gx:GX W){k:Call}{d:Nat}
include gx
theorem lj2:JS W (GL k d) (sL 1) (L2 k):=ll gx (by intros;kernel_rfl)
theorem lj3:JS W (GL k d) (sL 2) (L3 k):=ll gx (by intros;kernel_rfl)
theorem lj4:JS W (GL k d) (sL 3) (L4 k):=ll gx (by intros;kernel_rfl)
theorem lj5:JS W (GL k d) (sL 4) (L5 k):=ll gx (by intros;kernel_rfl)
theorem lj6:JS W (GL k d) (sL 5) (L6 k):=ll gx (by intros;kernel_rfl)
theorem lj8:JS W (GL k d) (sL 7) (L8 k):=ll gx (by intros;kernel_rfl)
theorem lj9:JS W (GL k d) (sL 8) (L9 k):=ll gx (by intros;kernel_rfl)
theorem adK:JS W (GL k d) (sL 9) (ON k):=ll gx (by intros;kernel_rfl)
end
noncomputable def R7 (W:Wd)(G:Gm)(s:afu):={code:Call->Sc // ∀ (c:Cx W)A,c8 G c A->∀ a,ja c A a->bQ c A s (code a)}
noncomputable def c7 (gx:GX W) (m:Cm W G) (s:afu):R7 W G s:=match s with
 |.If (.UnaryOp .Not (.Call (.Name x q) l [] r) t) b o u=>dS (cO.name x) ⟨λd=>g0,λc A h d d=>oY c A h⟩ λv i=>dG v ⟨λd=>g0,λc A h d d=>oY c A h⟩ λa e=>dt (!l.any aey) ⟨λd=>g0,λc A h d d=>oY c A h⟩ λj=>dt (cf G.names x) ⟨λd=>g0,λc A h d d=>oY c A h⟩ λk=>dt (Di a) ⟨λd=>g0,λc A h d d=>oY c A h⟩ λn=> ⟨λf=>aB (eZ (cF (az f a (ed m false l).1))) (cB m b).1 (cB m o).1,λc A h f p=>sH (FC (Gv h.hc rfl ((aL (gh k) λd g=>zk h.hc p (nt j) (h.at g gi) (h.pl g) (uY gx (i.trans (congrArg some e))) ((afK _ _).mp (Dj gx n)) ((ed m false l).2 c A h))))) ((cB m b).2 c A h) ((cB m o).2 c A h)⟩
 |_=>⟨λd=>g0,λc A h d d=>oY c A h⟩
noncomputable def adL (W:Wd) (k:Call) (d:Nat):Prop:=∀ (c:Cx W) A,c8 (GL k d) c A->∀ a,ja c A a->bQ c A (sL 6) (y3 a k)
theorem aa7:∀ (W:Wd) (gx:GX W) k d,(c7 gx (cm gx aW fuel (GL k d)) (sL 6)).1=λkr=>y3 kr k:=by intros;kernel_rfl
theorem lj7 (gx:GX W):adL W k d:=λc A h a b=>(congrFun (aa7 W gx k d) a)▸(c7 gx (cm gx aW fuel (GL k d)) (sL 6)).2 c A h a b
section
section
variable{W:Wd}{c:Cx W}{A:aeX}{d:Nat}
theorem SR.T6 (l:c.comp=none) (R:SR c σ s α N) (f:SR c j u w q) (g:Sts ⟨σ.loc,σ.aK,σ.st,σ.n,σ.n,σ.mark⟩ α N j w q) (r:σ.n<=j.lo)
  (t:∀ n v,lk n σ.loc=some v->lk n j.loc=some v):SR c σ u α q:=by
 have p:=g.ge.pre;have I:Ge α N α q:=⟨afA _,g.ge.keep,λL h=>.inl h,g.ge.tab⟩
 refine ⟨?_,R.aK,f.news,f.nodup,R.inj,λi o hi e=>?_,λa h=>f.all a (p.subset h),f.hi,R.wf,R.bD,R.len,R.low,R.bt,f.gens,f.os,f.aZ⟩
 ·refine Y f.fr λm F d=>?_
  refine Y R.fr λM P A=>?_
  refine (ay m F ?_);unfold NR at d A ⊢;rw[l]at d A ⊢;intro n v e;refine cg (d n v (t n v e)) ?_;clear d t;intro x k val y z B;refine cg (A n v e) ?_;clear A;intro Q S T V X C;exact (dx x k val y z (C.cut p B))
 ·refine aH (R.obj i o hi e) λZ lu q1 q2 D=>?_
  have bN:i<σ.n:=hi;have W:j.st.get i=some o:=(g.same i (aej hi r)).trans e;have l:i<j.n:=aej (aej hi r) f.low;refine aH (f.obj i o l W) ?_;clear f l W;intro a b E G H;have du:i<α.length:=by rw[R.len];exact hi
  exact (bB a b (jc p E du) G (D.cut p du H))
noncomputable def y4:LS:=⟨[],[],lJ,0,0,[]⟩
theorem SR.forget (b:c.comp=none)(R:SR c σ s α N):SR c y4 s [] N:=by
 refine⟨?_,λd d e=>(by exact aT e),R.news,R.nodup,.nil,λi o hi d=>absurd hi (aiG _),λa h=>(by cases h),R.hi,ym,afa _,rfl,aeu _,λd h=>(by cases h),R.gens,R.os,R.aZ⟩
 refine Y R.fr ?_;clear R;intro m F d;refine (ay m F ?_);unfold NR;rw [b];intro n v e;exact aT e
theorem ka{st:afu}{rest:List afu}{code:Sc}(h:bQ c A st code){kn:LS->Rs}{kr:Kv}(j:code σ kn kr=.ok .none){s:aeg}{α N}(R:SR c σ s α N){Q:Flow->aeg->Prop}{E:aec->aeg->Prop} (k:∀ a i b f,kn a=.ok .none->SR c a i b f->Sts σ α N a b f->WP W A (ahf rest c.env) Q E i) (l:∀ v a val i b f,kr v a=.ok .none->SR c a i b f->Sts σ α N a b f->VR W.kt b f val v->Q (.ret val) i):WP W A (ahf (st::rest) c.env) Q E s:=
 ago (h σ kn kr _ j (by intro h;contradiction) s α N E R (λC e a i b f q=>by contradiction) _ (λa i b f q d g=>k a i b f q d g) λv a val i b f q d g m=>l v a val i b f q d g m)
noncomputable def ki(N:Led):Prop:=∀ P∈([813,146,392,302]:List aep),∃ c,(P,afe c)∈N
theorem ki.ge (g:Ge α N b a) (h:ki N):ki a:=λP c=>(aL (h P c) λd A=>g.tab P d A)
end
variable{prog:ae0}{w:afh}{sl:KX}{θ:Nat->Nat->O}{cond:Nat->Bool}{src:List (aep×List aec)}{os:afn}
theorem RA:(fG.scope.names.all λp=>cH p.1)=true:=by kernel_rfl
theorem kj{c:Cx (jL prog w sl θ cond src os)}(f:ak c) (g:aP c d A) (h:c.comp=none) (a:c.scope=fG.scope){k:Call}(hk:dv (jL prog w sl θ cond src os) d k):c8 (GL k d) c A:=
 ⟨f,g,hk,λn x b e=>(wb (aeB.mp RA (x,b) (aeM e)) b (by rw[a];exact e) (.inl rfl)),λi=>⟨by rw[a],h⟩,λx e=>by exact aT e⟩
end
section
variable{prog:ae0}{w:afh}{sl:KX}{θ:Nat->Nat->O}{cond:Nat->Bool}{src:List (aep×List aec)}{os:afn}
set_option backward.match.sparseCases true
noncomputable def Co:Sc:=eP (aG (aQ Ar (bg (J 2) (bg (J 1) aI)))) aF
noncomputable def kR (call:Call):Call:=λf w a k=>aen .no (kg yd Co call 870 w a k) (vd 955 f)
noncomputable def adM (p:Nat->Pos) (k:Nat):List Stmt:=[.Try [.Expr (.Call (.Name "collect" (p 0)) [.Name "items" (p 1)] [] (p 2)) (p 3)]
 [.ExceptHandler (some (.Tuple [.Name "NameFault" (p 4),.Name "TypeFault" (p 5),.Name "TraitFault" (p 6),.Name "CoherenceFault" (p 7)] k (p 8))) (some "told") [.Return (some (.Call (.Name "isinstance" (p 9)) [.Name "told" (p 10),.Name "fault" (p 11)] [] (p 12))) (p 13)] (p 14)] [] [] (p 15),.Return (some (.Constant (.bool false) 0 (p 16))) (p 17)]
noncomputable def XE:List Pos:=[⟨nat_lit 923,nat_lit 8,nat_lit 923,nat_lit 15⟩,⟨nat_lit 923,nat_lit 16,nat_lit 923,nat_lit 21⟩,⟨nat_lit 923,nat_lit 8,nat_lit 923,nat_lit 22⟩,⟨nat_lit 923,nat_lit 8,nat_lit 923,nat_lit 22⟩,⟨nat_lit 924,nat_lit 12,nat_lit 924,nat_lit 21⟩,⟨nat_lit 924,nat_lit 23,nat_lit 924,nat_lit 32⟩,⟨nat_lit 924,nat_lit 34,nat_lit 924,nat_lit 44⟩,⟨nat_lit 924,nat_lit 46,nat_lit 924,nat_lit 60⟩,⟨nat_lit 924,nat_lit 11,nat_lit 924,nat_lit 61⟩,⟨nat_lit 925,nat_lit 15,nat_lit 925,nat_lit 25⟩,⟨nat_lit 925,nat_lit 26,nat_lit 925,nat_lit 30⟩,⟨nat_lit 925,nat_lit 32,nat_lit 925,nat_lit 37⟩,⟨nat_lit 925,nat_lit 15,nat_lit 925,nat_lit 38⟩,⟨nat_lit 925,nat_lit 8,nat_lit 925,nat_lit 38⟩,⟨nat_lit 924,nat_lit 4,nat_lit 925,nat_lit 38⟩,⟨nat_lit 922,nat_lit 4,nat_lit 925,nat_lit 38⟩,⟨nat_lit 926,nat_lit 11,nat_lit 926,nat_lit 16⟩,⟨nat_lit 926,nat_lit 4,nat_lit 926,nat_lit 16⟩]
noncomputable def adN(i:Nat):Pos:=(XE[i]?).getD ⟨0,0,0,0⟩
theorem T7:tH.body=adM adN 0:=by kernel_rfl
theorem ED:tH.scope.names=[(("items" :Str),NameKind.local),(("fault" :Str),.local),(("told" :Str),.local),(("collect" :Str),.globalImplicit),(("NameFault" :Str),.globalImplicit),(("TypeFault" :Str),.globalImplicit),(("TraitFault" :Str),.globalImplicit),(("CoherenceFault" :Str),.globalImplicit),(("isinstance" :Str),.globalImplicit)]:=by kernel_rfl
theorem pb{n:Nat}{k:afm}(h:([(("items" :Str),NameKind.local),(("fault" :Str),.local),(("told" :Str),.local),(("collect" :Str),.globalImplicit),(("NameFault" :Str),.globalImplicit),(("TypeFault" :Str),.globalImplicit),(("TraitFault" :Str),.globalImplicit),(("CoherenceFault" :Str),.globalImplicit),(("isinstance" :Str),.globalImplicit)]:List (Str×afm))[n]?=some (x,k)):tH.scope.names[n]?=some (x,k):=by rw[ED];exact h
theorem v8{c:Cx (jL prog w sl θ cond src os)}(a:ak c){C:aep}(h:cO.name x=some (.glob C)):KtsName sl.K x (.ref C):=by
 refine Y (a.g.name x (.glob C) h [] []) ?_;clear a h;intro val b d;rw [show val=.ref C from d.inv] at b;exact .inl b
theorem aa8{c:Cx (jL prog w sl θ cond src os)}{A:aeX}{d:Nat}{call:Call}(r:dv (jL prog w sl θ cond src os) d call) (a:ak c) (b:aP c (d+1) A) (m:c.outer=[]){t:Str}{u:aft}{x:aep}{z:aec}(B:c.bF=agT t u c.L x z) (D:∃ o,c.base.get? afS=some o) (F:c.comp=none):ja c A (kR call):=by
 intro f G I k y h p s W N E R X M Z q i P qa Q;induction j:vd 955 f using aee with
 |false=>
  unfold kR at h;rw [j]at h;exact bO h p
 |true=>
  have h:kg yd Co call 870 G I k=y:=by
   unfold kR at h;rw [j]at h;exact h
  rw [GW j]at q;rw [show M=.ref 955 from q.inv];refine eY (a.g.fn 955 tH (by kernel_rfl)) λqual dC H=>?_
  have S:A.frames=some [c.bF]:=by rw [b.frames,m]
  have hd:=b.depth;have hu:=b.units;refine agI (Ti r a m B D F S (by omega) (by omega) b.handled H (hsc:=Co) (Cs:=yd) (col:=870) (ic:=3) T7 (by kernel_rfl) (pb rfl) (pb rfl) (pb rfl) (pb rfl) (by kernel_rfl) (by kernel_rfl) (by kernel_rfl) (by kernel_rfl) (by rw [ED];decide) ?_ ?_ R i P h p λv av bu s' bG N' e T g i=>Q _ _ _ _ _ _ e T g i)
  ·intro c A a hn l;exact jY (vK (vC a (n:=8) (v:=.builtin "isinstance") (by kernel_rfl) (by rw [l];exact pb rfl) (by kernel_rfl) (by kernel_rfl) (by kernel_rfl) (by kernel_rfl) Et (jQ (by kernel_rfl) (kO a (by rw [l];exact pb rfl) (by kernel_rfl)) (jQ (by kernel_rfl) (kO a (by rw [l];exact pb rfl) (by kernel_rfl)) nL)))) qn
  ·intro C V qb loose mg mb L;refine test_tup4 (c1:=.ref 52) (c2:=.ref 76) (c3:=.ref 88) (c4:=.ref 100) (v8 a (by kernel_rfl)) (v8 a (by kernel_rfl)) (v8 a (by kernel_rfl)) (v8 a (by kernel_rfl)) ?_ (by kernel_rfl) (by kernel_rfl) (by kernel_rfl) (by kernel_rfl) (by kernel_rfl) (by kernel_rfl) (by kernel_rfl) (by kernel_rfl) (by kernel_rfl)
   exact beq_iff_eq.mp (aeB.mp (mn sl).exm C (nP V))
set_option backward.match.sparseCases false
end
section
noncomputable def kM (r t lo a:Bool):Call:=oE r t (XF r t (rtQ r t lo a)) 25
noncomputable def kP:Call:=jk cQ cR cP 25
noncomputable def ib:Kv:=λa a=>.no
noncomputable def Cp(o:Option O)(i:Nat):Bool:=aD false o λv=>jf false v λj=>aem j i
theorem Gd (h:Cp o i=true):o=some (.ref i):=by
 refine Y (aR h nofun) ?_;clear h;intro v a h;subst a;refine Y (i0 h nofun) ?_;clear h;intro j a h;subst a;rw[aed h]
noncomputable def DI:LS->Rs:=λa=>aN .no (and (aeQ (nat_lit 8) a.lo) (and (Cp (lk (nat_lit 2) a.loc) (nat_lit 7)) (Cp (lk (nat_lit 1) a.loc) (nat_lit 4)))) (.ok .none)
theorem XG (h:DI σ=.ok .none):8<=σ.lo/\∀ n v,lk n lF=some v->lk n σ.loc=some v:=by
 refine ae (aS h nofun) ?_;clear h;intro a g;refine ae (ad9.mp a) ?_;clear a;intro c b;refine ae (ad9.mp b) ?_;clear b;intro d f;refine⟨aei c,λn v e=>?_⟩
 rcases sR e with⟨rfl,rfl⟩|⟨rfl,rfl⟩
 ·exact Gd d
 ·exact Gd f
noncomputable def OO (a:List (Str×O)):LS:=⟨lF,[],rW a,8,8,[]⟩
noncomputable def oj (k:Call) (a:List (Str×O)):Prop:=L3 k (OO a) (λb=>L4 k b DI ib) ib=.ok .none
noncomputable def v9(n:Nat):O×Nat:=match n with
 |0=>(.str xQ,52)
 |1=>(.str xR,52)
 |2=>(.str xS,76)
 |3=>(.str xT,52)
 |4=>(.str xU,88)
 |5=>(.str xV,100)
 |6=>(.str xX,52)
 |_=>(.str B9,52)
noncomputable def nh (n:Nat):O:=.tup [(v9 n).1,.glob (v9 n).2]
noncomputable def VS:O:=.hl [nh 0,nh 1,nh 2,nh 3,nh 4,nh 5,nh 6,nh 7]
noncomputable def gq (n:Nat):List (Nat×O):=(6,.glob (v9 n).2)::(5,(v9 n).1)::(4,VS)::lF
theorem d56 (a:List (Str×O)) (kn:LS->Rs) (kr:Kv):L5 kP (eG lF a) (λσ=>L6 kP σ kn kr) kr=join (kn (eG (gq 7) a)) (join (kn (eG (gq 6) a)) (join (kn (eG (gq 5) a)) (join (kn (eG (gq 4) a)) (join (kn (eG (gq 3) a)) (join (kn (eG (gq 2) a)) (join (kn (eG (gq 1) a)) (kn (eG (gq 0) a)))))))):=by kernel_rfl
noncomputable def oG (n:Nat) (k:Call) (a:List (Str×O)):Prop:=y3 (kR k) k (eG (gq n) a) (λb=>.ok .none) ib=.ok .none
noncomputable def OP:Kv:=λv a=>i8 .no v λb=>aN .no b (.ok .none)
theorem XH:L8 kP y4 (λσ=>L9 kP σ (λσ=>ON kP σ (λa=>.no) OP) ib) ib=.ok .none:=by kernel_rfl
theorem XI (h:OP v σ=.ok .none):v=.bool true:=by
 refine Y (pR h nofun) ?_;clear h;intro b a h;subst a;refine ae (aS h nofun) ?_;clear h;intro a c;subst a;rfl
theorem aa9 (k:Call) (kn:LS->Rs) (kr:Kv):L2 k ia kn kr=k (.glob 916) [.ref 4] ia (λv σ=>kn ⟨(2,v)::σ.loc,σ.aK,σ.st,σ.n,σ.lo,σ.mark⟩):=by kernel_rfl
variable{prog:ae0}{w:afh}{sl:KX}{tok:Nat->Fm}{bl:Nat->Bool}{dm:Dm}{cond:Nat->Bool}{src:List (aep×List aec)}{os:afn}
structure Drawn where
 r:Bool
 t:Bool
 fs:List Fm
 s1:Bool
 s2:Bool
 ins:List Fm
 lo:Bool
 o:Fm
 cn:Fm
 sf:Nat
 df:Bool
structure Drawn.OK(D:Drawn):Prop where
 h1:D.fs.length<=2
 h2:∀ x∈D.fs,x∈bE D.r D.t 2
 h3:D.ins.length<=2
 h4:∀ x∈D.ins,x∈bE D.r D.t 2
 h5:D.o∈bE D.r D.t 1
 h6:D.cn∈gI
 h7:D.sf<=2
noncomputable def Drawn.σ (D:Drawn):LS:=M2 D.r D.t (rV D.r D.t (c9 D.fs) (.hl [.bool D.s1,.bool D.s2]) (c9 D.ins) (.bool D.lo) (dy D.o) (dy D.cn) (.str (iX D.sf)) (.bool D.df))
section
variable{c:Cx (ba prog w sl tok bl dm cond src os)}{A:aeX}
open Classical in
noncomputable def rX (p : Prop) : Rs := eF p (.ok .none)
theorem AF{p:Prop}(h:rX p=.ok .none):p:=(ef h nofun).1
theorem AG{p:Prop}(h:p):rX p=.ok .none:=eB h
theorem Qx (hk:dv (ba prog w sl tok bl dm cond src os) d k) (g:∀ K,AD K->k (.glob 916) [.ref 4] ia K=.ok .none) (i:ak c) (j:c.comp=none) (l:aP c d A) (m:c.scope=fG.scope) (R:SR c ia s α N){Q:Flow->aeg->Prop}{E:aec->aeg->Prop} (h:∀ D:Drawn,D.OK->∀ a b e,SR c D.σ a b e->Ge α N b e->WP (ba prog w sl tok bl dm cond src os) A (ahf rest c.env) Q E a):WP (ba prog w sl tok bl dm cond src os) A (ahf (sL 1::rest) c.env) Q E s:=by
 refine ka (lj2 gx c A (kj i l j m hk)) (kn:=λf=>rX (∃ D:Drawn,D.OK/\f=D.σ)) (kr:=ib) ((aa9 k _ ib).trans (g _ λr t n s1 s2 p lo o q u x y z B C F G H=>AG (ay ⟨r,t,n,s1,s2,p,lo,o,q,u,x⟩ ⟨y,z,B,C,F,G,H⟩ rfl))) R (λf a b e hk I L=>?_) (λv f val a b e hk=>nomatch hk)
 refine Y (AF hk) ?_;clear hk;intro D M P;subst P;exact h D M a b e I L.ge
theorem Qy (hk:dv (ba prog w sl tok bl dm cond src os) d k) (o:oj k f) (g:ak c) (e:c.comp=none) (i:aP c d A) (j:c.scope=fG.scope) (R:SR c (eG lF f) s α N){Q:Flow->aeg->Prop}{E:aec->aeg->Prop} (h:∀ a b,SR c (eG lF f) a α b->(∀ P p,(P,afe p)∈N->∃ q,(P,afe q)∈b)->WP (ba prog w sl tok bl dm cond src os) A (ahf rest c.env) Q E a):WP (ba prog w sl tok bl dm cond src os) A (ahf (sL 2::sL 3::rest) c.env) Q E s:=by
 refine ka (lj3 gx c A (kj g i e j hk)) o ⟨R.fr,R.aK,R.news,R.nodup,R.inj,R.obj,R.all,R.hi,R.wf,R.bD,R.len,aeu _,R.bt,R.gens,R.os,R.aZ⟩ (λF G H I r t l=>?_) (λv u val a x b hk=>nomatch hk)
 refine ka (lj4 gx c A (kj g i e j hk)) r t (λL y M z m B n=>?_) (λv u val a x b hk=>nomatch hk)
 refine ae (XG m) ?_;clear m;intro C D;exact h y z (SR.T6 e R B (l.trans n) C D) (l.trans n).ge.tab
theorem PT (hk:dv (ba prog w sl tok bl dm cond src os) d kP) (j:ak c) (b:c.comp=none) (k:aP c d A) (l:c.scope=fG.scope) (R:SR c (eG lF a) s α N){Q:Flow->aeg->Prop}{E:aec->aeg->Prop} (h:∀ n,n<8->∀ e f g,SR c (eG (gq n) a) e f g->Ge α N f g->WP (ba prog w sl tok bl dm cond src os) A (ahf rest c.env) Q E e):WP (ba prog w sl tok bl dm cond src os) A (ahf (sL 4::sL 5::rest) c.env) Q E s:=by
 have y:∀ n,aeQ (n+1) 8=true->rX (∃ m,m<8/\eG (gq n) a=eG (gq m) a)=.ok .none:=λn b=>AG (ay n (aei b) rfl)
 refine ka (lj5 gx c A (kj j k b l hk)) ((d56 a (λi=>rX (∃ n,n<8/\i=eG (gq n) a)) ib).trans (jj (y 7 rfl) (jj (y 6 rfl) (jj (y 5 rfl) (jj (y 4 rfl) (jj (y 3 rfl) (jj (y 2 rfl) (jj (y 1 rfl) (y 0 rfl))))))))) R (λF G H I p q r=>?_) (λv i val e f g hk=>nomatch hk)
 refine ka (lj6 gx c A (kj j k b l hk)) p q (λL t u x o z B=>?_) (λv i val e f g hk=>nomatch hk)
 refine Y (AF o) ?_;clear o;intro n C D;subst D;exact h n C t u x z (r.trans B).ge
theorem RC (hk:dv (ba prog w sl tok bl dm cond src os) d k) (i:oG n k j) (f:ak c) (a:c.comp=none) (g:aP c (d+1) A) (l:c.scope=fG.scope) (m:c.outer=[]) (p:c.bF=agT B C c.L D F) (q:∃ o,c.base.get? afS=some o) (R:SR c (eG (gq n) j) s α N){Q:Flow->aeg->Prop}{E:aec->aeg->Prop} (h:∀ b e,SR c y4 b [] e->(∀ P r,(P,afe r)∈N->∃ t,(P,afe t)∈e)->WP (ba prog w sl tok bl dm cond src os) A (ahf rest c.env) Q E b):WP (ba prog w sl tok bl dm cond src os) A (ahf (sL 6::rest) c.env) Q E s:=
 ka (lj7 gx c A (kj f (g.less (afY d)) a l hk) (kR k) (aa8 hk f g m p q a)) i R (λG u H x I y z=>h u x (y.forget a) z.ge.tab) (λv L val b M e hk=>nomatch hk)
theorem RD (hk:dv (ba prog w sl tok bl dm cond src os) d kP) (g:ak c) (i:c.comp=none) (j:aP c d A) (k:c.scope=fG.scope) (R:SR c y4 s [] N){Q:Flow->aeg->Prop}{E:aec->aeg->Prop} (h:∀ a b e f,SR c e a f b->(∀ P m,(P,afe m)∈N->∃ n,(P,afe n)∈b)->Q (.ret (.bool true)) a):WP (ba prog w sl tok bl dm cond src os) A (ahf [sL 7,sL 8,sL 9] c.env) Q E s:=by
 refine ka (lj8 gx c A (kj g j i k hk)) XH R (λG H I L o p q=>?_) (λv e val a f b hk=>nomatch hk)
 refine ka (lj9 gx c A (kj g j i k hk)) o p (λM S T V r t u=>?_) (λv e val a f b hk=>nomatch hk)
 refine ka (adK gx c A (kj g j i k hk)) r t (λe a f b hk=>nomatch hk) (λv x val y z B C D F l=>?_)
 rw [XI C] at l;rw [show val=.bool true from l.inv];exact h y B x z D (q.trans (u.trans F)).ge.tab
end
noncomputable abbrev W0 (prog:ae0) (w:afh) (sl:KX) (src:List (aep×List aec)) (os:afn):Wd:=ba prog w sl Ck (λa=>true) ⟨false,false,0,false,0⟩ (λa=>false) src os
theorem ki.to (h:ki N) (t:∀ P a,(P,afe a)∈N->∃ b,(P,afe b)∈c):ki c:=λP w=>(aL (h P w) λa d=>t P a d)
theorem XJ (y:∀ r t lo e,oj (kM r t lo e) (gc r t lo e)) (z:∀ n,n<8->∀ r t lo e,oG n (kM r t lo e) (gc r t lo e)) {c:Cx (W0 prog w sl src os)}(p:ak c) (b:c.comp=none) (q:aP c 27 A) (f:c.scope=fG.scope) (B:c.outer=[]) (C:c.bF=agT NQ lcs c.L NS LZ) (F:∃ o,c.base.get? afS=some o) {N:Led}(R:SR c ia s α N) (G:ki N){Q:Flow->aeg->Prop}{E:aec->aeg->Prop} (H:∀ g u,agD c.h₀ c.L g.heap (u++c.ax)->ki u->(∃ m,Fr c.h₀ c.L g.heap m)->g.gens=#[]->g.os=os->Q (.ret (.bool true)) g):WP (W0 prog w sl src os) A (ahf [sL 1,sL 2,sL 3,sL 4,sL 5,sL 6,sL 7,sL 8,sL 9] c.env) Q E s:=by
 have i:∀ n,aeQ n 27=true->n<=27:=λn=>aei
 refine Qx (d:=20) (TU mK mh aaV 20) (λK h=>draws h) p b (q.less (i 20 rfl)) f R λD a dk cK bZ I L=>?_
 have HT:=TX a.h2 a.h4 a.h5 a.h6;have M:=VQ b a.h1 a.h2 a.h3 a.h4 a.h5 a.h6 I;have j:ak (c.to (mR prog w sl D.r D.t D.fs D.s1 D.s2 D.ins D.lo D.o D.cn D.sf src os)):=p.toT HT;have k:aP (c.to (mR prog w sl D.r D.t D.fs D.s1 D.s2 D.ins D.lo D.o D.cn D.sf src os)) 27 A:=q.toT;have v:dv (mR prog w sl D.r D.t D.fs D.s1 D.s2 D.ins D.lo D.o D.cn D.sf src os) 25 (kM D.r D.t D.lo D.df):=TN HT (aa4 HT a.h1 a.h7) 25;have x:dv (mR prog w sl D.r D.t D.fs D.s1 D.s2 D.ins D.lo D.o D.cn D.sf src os) 25 kP:=zO mK mh 25;refine Qy v (y D.r D.t D.lo D.df) j b (k.less (i 25 rfl)) f M λd0 dJ P S=>?_
 refine PT x j b (k.less (i 25 rfl)) f P λn T dU ji fY V W=>?_
 refine RC v (z n T D.r D.t D.lo D.df) j b (k.less (i 26 rfl)) f B C F V λrd Bu X Z=>?_
 refine RD x j b (k.less (i 25 rfl)) f X λkd mY mF wz l adO=>?_
 refine Y l.fr λm qa u_=>?_
 exact H kd mY l.news ((((G.ge L).to S).ge W).to Z |>.to adO) ⟨m,qa⟩ l.gens l.os
end
section
variable{W:Wd}{c:Cx W}{A:aeX}{d:Nat}
noncomputable def aba (a:aep) (n:Int):Prim:=λl c k=>hU l λv=>eF (v=.glob a) (k (.int n) c)
theorem SR.base (b:ak c)(R:SR c σ s α N)(h:c.base.IsList a f):s.heap.IsList a f:=by
 refine Y R.fr λm F d=>?_
 refine Y h λo e r=>?_
 exact⟨o,F.keep _ _ (b.below.stays _ _ e),r⟩
theorem T8 (e:ak c) (f:c.base.IsList a b) (g:(b.size:Int)<2^63):dQ c A (.builtin "len") (aba a b.size):=by
 intro l o k y h d s p N E R q r W i Q j;refine iw W i h d λv w m h=>?_
 refine ae (ef h d) ?_;clear h;intro n h;subst n;rw[show w=.ref a from m.inv];exact len_list (R.base e f) g (j _ _ _ _ _ _ h R.toks .refl (.int _ _))
noncomputable def abb (x y:Int):Prim:=λl c k=>eF (l=[.int x,.int y]) (k (.int (if y>x then y else x)) c)
theorem T9 (f:ak c) (g:aP c d A):dQ c A (.builtin "max") (abb x y):=by
 intro l o k p h i s r N E R z B a j Q m;refine ae (ef h i) ?_;clear h;intro W h;subst W;refine aH (jV a j) ?_;clear a;intro v w W b e;subst W;refine aL b.inv ?_;clear b;intro t W;subst W;refine aL e.inv ?_;clear e;intro u W;subst W;refine max_two_ints g.handled λC D n=>?_
 refine m _ _ _ _ _ _ h (R.grow f n) .refl ?_;by_cases q:y>x
 ·rw[if_pos q,if_pos q];exact .int _ _
 ·rw[if_neg q,if_neg q];exact .int _ _
theorem Cq (b:ak c){p:Prim}{x:Str}{f:Pos}{n:Nat}{a}{pos:Pos}{σ:LS}{i:Int}(g:args.any aey=false) (h:c.scope.names[n]?=some (x,.globalImplicit)) (j:cH x=true) (m:W.G.boot x=true) (o:ahV x=some v) (q:noRef v=true)
 (r:dQ c A v p) (s:gL c A args a) (e:∀ k,a σ (λl σ=>p l σ k)=k (.int i) σ):aE c A (.Call (.Name x f) args [] pos) (br σ i):=ic (vC b g h j m o q r s) e
theorem abc (h:aE c A x (br σ i)):aE c A (.UnaryOp .USub x pos) (br σ (-i)):=ic (FQ h) λk=>by
 show br σ i σ _=_;rw[fB];rfl
theorem XK (e:aE c A a (br σ x)) (f:aE c A b (br σ y)):aE c A (.BinOp a .Sub b pos) (br σ (x-y)):=ic (Fd e f) λk=>by
 show br σ x σ _=_;rw[fB];show br σ y σ _=_;rw[fB];rfl
theorem abd (e:ak c) (f:0<=y) (g:y<=1000000) (i:x.natAbs<2^64) (j:aE c A a (br σ x)) (k:aE c A b (br σ y)):aE c A (.BinOp a .Pow b pos) (br σ (x^y.toNat)):=tG e (op:=.Pow) (λd d h=>pow_int_small f g i h) j k
theorem M4 (e:ak c) (f:aP c d A) (g:decide (x<y)=t) (h:afy .Lt b=false) (i:aE c A a (br σ x)) (j:aE c A b (br σ y)):dz c A (.Compare a [.Lt] [b] pos) (iJ σ t):=
 g▸tc (zS e f e.g.tok h i j) λk=>by show br σ x σ _=_;rw [fB];show br σ y σ _=_;rw [fB];rfl
theorem XM:bg a r σ k=a σ λv σ=>r σ λl σ=>k (v::l) σ:=rfl
theorem xb:bg (br σ x) r σ k=r σ λl σ=>k (.int x::l) σ:=fB
theorem XN:c0 op (br σ x) (br σ y) σ k=aD .no (xi op σ.st (.int x) (.int y)) λt=>k (.bool t) σ:=fB.trans fB
theorem abe (e:ak c) (f:aP c d A){n:Nat}{g:Pos}{a b:aeD}{p pos:Pos}{σ:LS}{x y:Int}(h:c.scope.names[n]?=some (("int" :Str),.globalImplicit)) (i:W.G.boot "int" =true) (j:afy .GtE b=false) (l:aE c A a (br σ x)) (m:aE c A b (br σ y)):aE c A (.Call (.Name "int" g) [.Compare a [.GtE] [b] p] [] pos) (br σ (if x ≥ y then 1 else 0)):=
 Cq e rfl h (by kernel_rfl) i (v:=.type "int") (by kernel_rfl) (by kernel_rfl) EW (jQ rfl (Fz e f e.g.tok j l m) nL) λk=>by
  rw [XM,XN];show wm [.bool (decide (x ≥ y))] σ k=_;by_cases q:x ≥ y
  ·rw [decide_eq_true q,if_pos q];rfl
  ·rw [decide_eq_false q,if_neg q];rfl
theorem abf (f:ak c) (z:qp e=true) (B:c.scope.names[n]?=some (x,.local)) (C:cH x=true) (h:lk n σ.loc=some (.glob a)) (l:c.base.IsList a D) (F:0<=j) (G:j<2^63) (H:D[j.toNat]?=some (.int v u)) (I:aE c A e (br σ j)):aE c A (.Subscript (.Name x p) e pos) (br σ v):=by
 intro m k y q W s L N E R o Q M;refine ae (ef q W) ?_;clear q;intro d q;subst d;refine Subscript_ (kO f B C m (λg b=>eF (g=.glob a/\b=m) y) y (by rw[nO,h];exact eB ⟨rfl,rfl⟩) W s L N E R o _ λZ b P dk cK bZ h S r T=>?_)
 refine ae (ef h W) λd V=>?_;obtain ⟨rfl,rfl⟩:=d
 refine I b (λg t=>eF (g=.int j/\t=b) y) y (fB.trans (eB ⟨rfl,rfl⟩)) W _ _ _ _ S (o.step r.kp) _ λvb t rf d0 eh dJ h i X w=>?_
 refine ae (ef h W) λd V=>?_;obtain ⟨rfl,rfl⟩:=d
 rw[show P=.ref a from T.inv];refine aL w.inv ?_;clear w;intro qa d;subst d;exact aiQ (i.base f l).typeIs slot_list_getitem.lookup (wpAny_getItem_list (i.base f l) F G H (M _ _ _ _ _ _ q i (r.trans X) (.int _ _))) (vu z _ _)
theorem ifY (b:dz c A t (iJ σ true)) (e:cy c A a f) (g:∀ kn kr,f σ kn kr=kn σ₂):bQ c A (.If t a [] pos) (fF σ σ₂):=
 sc (sH b e qn) λkn kr=>by
  show iJ σ true σ _=_;rw [show ∀ k,iJ σ true σ k=k true σ from λk=>eB rfl]
  exact g kn kr
noncomputable def LS.asg(σ:LS)(n:Nat)(v:O):LS:=⟨(n,v)::σ.loc,σ.aK,σ.st,σ.n,σ.lo,σ.mark⟩
noncomputable def LS.at_ (σ:LS)(l:List (Nat×O)):LS:=⟨l,σ.aK,σ.st,σ.n,σ.lo,σ.mark⟩
theorem G4{x:Int}:0<=x.fmod 2147483629+7919*0*0+31*0+17/\x.fmod 2147483629+7919*0*0+31*0+17<2147483648:=by
 have h:=lZ (x:=x) (m:=2147483629) (by decide)
 refine⟨ajG (ajG (ajG h.1 (by decide)) (by decide)) (by decide),?_⟩
 exact Int.lt_of_lt_of_le (aiI (aiI (aiI h.2 _) _) _) (by decide)
theorem y5{α:Type}{v:α}{l:List (Nat×α)}:lk n ((n,v)::l)=some v:=eC.trans (if_pos rfl)
theorem vg{α:Type}{v:α}{l:List (Nat×α)}(h:aem n m=false):lk n ((m,v)::l)=lk n l:=eC.trans (if_neg (aid h))
noncomputable def sP (i:Nat):Stmt:=(jl.body[i]?).getD (.Pass ⟨0,0,0,0⟩)
theorem RF:jl.body=[sP 0,sP 1,sP 2,sP 3,sP 4]:=by kernel_rfl
theorem Ua (b:ak c) (s:aP c d A) (t:c.comp=none) (e:c.scope=jl.scope) (z:∀ x,x∈(["int", "len", "max"]:List Str)->W.G.boot x=true){a:aep}{vs:List aec}{ns:List Int}(D:c.base.IsList a vs.toArray) (E:IntsAre vs ns) (V:vs.length<=63){σ:LS}(X:lk 0 σ.loc=some (.glob a)) (Z:lk 1 σ.loc=some (.int 0)) (iG:σ.room=true):
  ∃ l x y code,cy c A jl.body code/\(∀ kn kr,code σ kn kr=kr (.ref σ.n) ((σ.at_ l).push (.list [.int x,.int y])))/\0<=y/\y<2147483648:=by
 have F:c.scope.names[(0:Nat)]?=some (("script" :Str),NameKind.local):=by rw [e];kernel_rfl
 have k:c.scope.names[(1:Nat)]?=some (("k" :Str),NameKind.local):=by rw [e];kernel_rfl
 have u:c.scope.names[(2:Nat)]?=some (("cell" :Str),NameKind.local):=by rw [e];kernel_rfl
 have w:c.scope.names[(3:Nat)]?=some (("big" :Str),NameKind.local):=by rw [e];kernel_rfl
 have G:c.scope.names[(4:Nat)]?=some (("mixed" :Str),NameKind.local):=by rw [e];kernel_rfl
 have n5:c.scope.names[(5:Nat)]?=some (("len" :Str),aeW):=by rw [e];kernel_rfl
 have n6:c.scope.names[(6:Nat)]?=some (("max" :Str),aeW):=by rw [e];kernel_rfl
 have o:c.scope.names[(7:Nat)]?=some (("int" :Str),aeW):=by rw [e];kernel_rfl
 have H:cH "script" =true:=by kernel_rfl
 have n:cH "k" =true:=by kernel_rfl
 have I:cH "cell" =true:=by kernel_rfl
 have B:cH "big" =true:=by kernel_rfl
 have p4:cH "mixed" =true:=by kernel_rfl
 have r:=z "int" (.head _);have bl:=z "len" (.tail _ (.head _));have bm:=z "max" (.tail _ (.tail _ (.head _)));have ec:(vs.toArray.size:Int)<2^63:=Int.lt_of_le_of_lt (Int.ofNat_le.mpr (aev (af8 ae9) V)) (by decide)
 have cut:∃ f l,bQ c A (sP 1) (fF (σ.asg 2 (.int 0)) (σ.at_ l))/\lk 1 l=some (.int 0)/\lk 2 l=some (.int f):=by
  have L:lk 0 (σ.asg 2 (.int 0)).loc=some (.glob a):=(vg rfl).trans X;have h:lk 1 (σ.asg 2 (.int 0)).loc=some (.int 0):=(vg rfl).trans Z;have N:∀ {P p Q},aE c A (.Call (.Name "len" P) [.Name "script" p] [] Q) (br (σ.asg 2 (.int 0)) (vs.toArray.size:Int)):=fun{P p Q}=>Cq b rfl n5 (by kernel_rfl) bl (v:=.builtin "len") (by kernel_rfl) (by kernel_rfl) (T8 b D ec) (jQ rfl (kO b F H) nL) λqa=>by
   show J 0 _ _=_;rw [nO,L];exact eB rfl
  induction E using IntsAre.casesOn with
  |nil=>exact⟨0,_,NX (M4 b s (by decide) (by kernel_rfl) (f6 b k n h) N) qx,h,y5⟩
  |cons i qb E=>
   refine⟨i,(2,.int i)::(σ.asg 2 (.int 0)).loc,ifY (M4 b s (decide_eq_true (aiH.mpr (Nat.succ_pos _))) (by kernel_rfl) (f6 b k n h) N) (jY (ud b t (by kernel_rfl) u (abf (j:=0) b rfl F H L D (Int.le_refl _) (by decide) rfl (f6 b k n h))) qn) (λkn kr=>?_),(vg rfl).trans h,y5⟩
   show fF _ _ _ _ _=_;rw [pN];rfl
 obtain⟨f,l,h1,h,R⟩:=cut;let x:Int:=if -1-f>f then -1-f else f;let M:Int:=((x.fmod 2147483629+7919*0*0+31*0+17)*48271).fmod 2147483647;let g:Int:=if x ≥ 10^(18:Int).toNat then 1 else 0;have hx:bQ c A (sP 2) (fF (σ.at_ l) ((σ.at_ l).asg 3 (.int x))):=ud b t (by kernel_rfl) w (Cq b rfl n6 (by kernel_rfl) bm (v:=.builtin "max") (by kernel_rfl) (by kernel_rfl) (T9 b s (x:=f) (y:=-1-f)) (jQ rfl (mJ b rfl o r (f6 b u I R)) (jQ rfl (mJ b rfl o r (XK (abc fP) (f6 b u I R))) nL)) λqa=>by
  rw [xb,xb];exact eB rfl)
 have S:lk 3 ((σ.at_ l).asg 3 (.int x)).loc=some (.int x):=y5;have C:lk 1 ((σ.at_ l).asg 3 (.int x)).loc=some (.int 0):=(vg rfl).trans h;have hM:bQ c A (sP 3) (fF ((σ.at_ l).asg 3 (.int x)) (((σ.at_ l).asg 3 (.int x)).asg 4 (.int M))):=ud b t (by kernel_rfl) G (qQ b (by decide) (mJ b rfl o r (oy b (qV G4.1 G4.2) (wX b (wX b (wX b (qQ b (by decide) (mJ b rfl o r (f6 b w B S)) fP) (oy b (qV (by decide) (by decide)) (oy b (qV (by decide) (by decide)) fP (f6 b k n C)) (f6 b k n C))) (oy b (qV (by decide) (by decide)) fP (f6 b k n C))) fP) fP)) fP)
 have T:lk 3 (((σ.at_ l).asg 3 (.int x)).asg 4 (.int M)).loc=some (.int x):=(vg rfl).trans S;have k6:lk 4 (((σ.at_ l).asg 3 (.int x)).asg 4 (.int M)).loc=some (.int M):=y5;have hg:IntMulOk x g:=.of_right (by
  show Builtin.Int.intBits (if x ≥ 10^(18:Int).toNat then 1 else 0)<=64;by_cases q:x ≥ 10^(18:Int).toNat
  ·rw [if_pos q];exact intBits_le_64 (by decide) (by decide)
  ·rw [if_neg q];exact intBits_le_64 (by decide) (by decide))
 have hR:bQ c A (sP 4) _:=vK (EN b (jQ rfl (oy b hg (f6 b w B T) (abe b s o r (by kernel_rfl) (f6 b w B T) (abd b (by decide) (by decide) (by decide) fP fP))) (jQ rfl (f6 b G p4 k6) nL)))
 have h0:bQ c A (sP 0) (fF σ (σ.asg 2 (.int 0))):=ud b t (by kernel_rfl) u fP
 refine⟨(4,.int M)::(3,.int x)::l,x*g,M,_,RF▸jY h0 (jY h1 (jY hx (jY hM (jY hR qn)))),λkn kr=>?_,(lZ (by decide)).1,aiC (lZ (m:=2147483647) (by decide)).2 (by decide)⟩
 show fF _ _ _ _ _=_;rw [pN];show fF _ _ _ _ _=_;rw [pN];show fF _ _ _ _ _=_;rw [pN];show fF _ _ _ _ _=_;rw [pN];show bg (br (((σ.at_ l).asg 3 (.int x)).asg 4 (.int M)) (x*g)) (bg (br (((σ.at_ l).asg 3 (.int x)).asg 4 (.int M)) M) aI) _ (λl σ=>aN .no (and (short l) σ.room) (kr (.ref σ.n) (σ.push (.list l))))=_
 rw [xb,xb];show aN Rs.no (and true σ.room) _=_;rw [iG];rfl
noncomputable def Bg (a:aep):Sc:=λc A d=>eF (lk 0 c.loc=some (.glob a)/\lk 1 c.loc=some (.int 0)/\c.room=true) (d (.ref c.n) (c.bare.push (.src 0)))
theorem VT (L:ak c) (M:aP c d A) (w:c.comp=none) (P:c.scope=jl.scope) (S:∀ x,x∈(["int","len","max"]:List Str)->W.G.boot x=true) (T:c.base.IsList a vs.toArray) (m:IntsAre vs ns) (V:vs.length<=63):cy c A jl.body (Bg a):=by
 intro b kn kr y h p s X N E R Z Q cW cX;refine ae (ef h p) ?_;clear h;intro z h;refine bU z ?_;clear z;intro l0 l1 B;obtain ⟨qa,x,C,code,uc,he,y0,y1⟩:=Ua L M w P S T m V l0 l1 B;have r:b.n<1024:=aei B;have u:∀ {v:AO}{j},j<1024->(Tr.set v 10 b.st b.n).get j=if j=b.n then some v else b.st.get j:=λk=>get_set R.wf r k
 have t:∀ {v:AO}{j},j<b.n->(Tr.set v 10 b.st b.n).get j=b.st.get j:=λk=>(u (agk k r)).trans (if_neg (aeE k))
 refine uc b (λn=>.no) (λv D=>eF (v=.ref b.n/\D=(b.at_ qa).push (.list [.int x,.int C])) y) y ((he _ _).trans (eB ⟨rfl,rfl⟩)) p s X N E R Z Q (λn n n n q=>bO q p) λv D val s' bG N' q f g hv=>?_
 refine ae (ef q p) λl n=>?_;obtain ⟨rfl,rfl⟩:=l
 refine cX _ (b.bare.push (.src 0)) _ s' bG N' h ⟨?_,f.aK,f.news,f.nodup,f.inj,λj o k e=>?_,f.all,f.hi,R.wf.set,f.bD,f.len,f.low,f.bt,f.gens,f.os,f.aZ⟩ ⟨g.ge,g.lo,λi m=>t (aej m R.low),g.n,g.mark,g.obs,λi m=>⟨t (R.bt i m),(g.bf i m).2⟩⟩ hv
 ·refine Y f.fr λqb qc n=>?_
  exact (ay qb qc (by unfold NR;rw [w];intro qd v e;exact aT e))
 ·have e:(Tr.set (.src 0) 10 b.st b.n).get j=some o:=e;have k:j<b.n+1:=k;by_cases q:j=b.n
  ·subst q;have l:=aea (((u r).trans (if_pos rfl)).symm.trans e);clear e;subst o;refine aH (f.obj b.n (.list [.int x,.int C]) k ((u r).trans (if_pos rfl))) λa2 o2 z1 z2 z3=>?_
   refine be z3.inv ?_;intro uN n2 l F;subst l;refine aH (jV F rfl) ?_;clear F;intro w1 w2 l G H;subst l;refine aL G.inv ?_;clear G;intro u1 l;subst l;refine aL H.inv ?_;clear H;intro u2 l;subst l;exact (bB a2 _ z1 z2 (.src y0 y1))
  ·have I:j<b.n:=aiZ (aib k) q;refine f.obj j o k ?_;show (Tr.set _ 10 b.st b.n).get j=_;rw [t I,←e,t I]
noncomputable def Bh(a:aep):aM:=⟨2,[],[true,true],[],λc=>Bg a⟩
noncomputable def xd (a:aep):Call:=λf d A k=>eF (f=.glob 877) (jq (Bh a) (λc c c c=>.no) d A k)
section
variable{prog:ae0}{w:afh}{sl:KX}{os:afn}{a:aep}{vs:List aec}{ns:List Int}
theorem Ub (o:IntsAre vs ns) (p:vs.length<=63):dv (W0 prog w sl [(a,vs)] os) 1 (xd a):=by
 intro c A j i f L M k y h l s P N E R q r S t m u Q z;refine ae (ef h l) ?_;clear h;intro B h;subst B;rw [show r=.ref 877 from t.inv];refine eY (j.g.fn 877 jl (show cO.fn 877=some jl by kernel_rfl)) λT V H=>?_
 have b:k7 (W0 prog w sl [(a,vs)] os) jl ⟨2,[],[true,true],[],λW=>g0⟩:=wU rfl (by kernel_rfl) λk d=>Ma
 have C:k7 (W0 prog w sl [(a,vs)] os) jl (Bh a):=⟨b.n,b.gV,b.Bq,b.Lw,b.q8,b.Br,b.cells,λcall d X c A j i D F W=>VT j i D F (λx n=>by
  rcases n with _|⟨_,_|⟨_,_|⟨_,n⟩⟩⟩
  ·kernel_rfl
  ·kernel_rfl
  ·kernel_rfl
  ·cases n) (j.nk _ (.head _)) o p⟩
 exact agI (vN (d':=0) (λW W W W W W W W W h l=>bO h l) j i.frames (mu i.depth 1 (by decide)) (mu i.units 3 (by decide)) i.handled H C rfl R m u h l q (λv Z bu G bG N' e I g m=>z _ _ _ _ _ _ e I g m) λe G x=>x)
noncomputable def L1 (k:Call):Sc:=aC (aq 1) (az k 877 (bg (J 0) (bg (cC (.int 0)) aI)))
theorem lj1 (gx:GX W):JS W (GL k d) (sL 0) (L1 k):=ll gx (by intros;kernel_rfl)
noncomputable def fy(a:aep):LS:=⟨[(0,.glob a)],[],kA.st,4,0,[]⟩
noncomputable def OQ (a:aep):LS:=⟨[(1,.ref 4),(0,.glob a)],[],Tr.set (.src 0) 10 kA.st 4,5,0,[]⟩
theorem abg (a:aep) (kn:LS->Rs) (kr:Kv):L1 (xd a) (fy a) kn kr=kn (OQ a):=
 (show L1 (xd a) (fy a) kn kr=xd a (.glob 877) [.glob a,.int 0] (fy a) (λv c=>kn ⟨(1,v)::c.loc,c.aK,c.st,c.n,c.lo,c.mark⟩) by kernel_rfl).trans
 ((eB rfl).trans ((show jq (Bh a) (λw w w w=>.no) [.glob a,.int 0] (fy a) (λv c=>kn ⟨(1,v)::c.loc,c.aK,c.st,c.n,c.lo,c.mark⟩)=Bg a ⟨[(0,.glob a),(1,.int 0)],[],kA.st,4,0,[]⟩ (λd=>kn ⟨(1,.none)::(back (fy a) d).loc,(back (fy a) d).aK,(back (fy a) d).st,(back (fy a) d).n,(back (fy a) d).lo,(back (fy a) d).mark⟩) (λv d=>kn ⟨(1,v)::(back (fy a) d).loc,(back (fy a) d).aK,(back (fy a) d).st,(back (fy a) d).n,(back (fy a) d).lo,(back (fy a) d).mark⟩) by kernel_rfl).trans
 ((eB ⟨by kernel_rfl,by kernel_rfl,by kernel_rfl⟩).trans (by kernel_rfl))))
theorem VU (p:∀ r t lo f,oj (kM r t lo f) (gc r t lo f)) (u:∀ n,n<8->∀ r t lo f,oG n (kM r t lo f) (gc r t lo f)) (x:IntsAre vs ns) (y:vs.length<=63)
  {c:Cx (W0 prog w sl [(a,vs)] os)}(i:ak c) (h:c.comp=none) (j:aP c 27 A) (k:c.scope=fG.scope) (z:c.outer=[]) (B:c.bF=agT P S c.L T V) (C:∃ o,c.base.get? afS=some o)
  {N:Led}(R:SR c (fy a) s α N) (D:ki N){Q:Flow->aeg->Prop}{E:aec->aeg->Prop}
  (G:∀ b g,agD c.h₀ c.L b.heap (g++c.ax)->ki g->(∃ m,Fr c.h₀ c.L b.heap m)->b.gens=#[]->b.os=os->Q (.ret (.bool true)) b):WP (W0 prog w sl [(a,vs)] os) A (ahf fG.body c.env) Q E s:=by
 rw [T5]
 refine ka (lj1 gx c A (kj i (j.less (aei (rfl:aeQ 1 27=true))) h k (Ub x y))) (kn:=λW=>rX (W=OQ a)) (kr:=ib) ((abg a _ ib).trans (AG rfl)) R (λW b l g hk d H=>?_) (λv W val b l g hk=>nomatch hk)
 have I:=AF hk;clear hk;subst I
 have L:SR c ia b l g:=⟨by
  refine Y d.fr λm F M=>?_
  refine (ay m F ((NR.none h).mpr λn v e=>(NR.none h).mp M n v ?_))
  have e:lk n [(1,O.ref 4)]=some v:=e
  show lk n [(1,O.ref 4),(0,.glob a)]=some v
  rw [eC] at e ⊢
  by_cases q:n=1
  ·rw [if_pos q] at e ⊢;exact e
  ·rw [if_neg q] at e;exact aT e,d.aK,d.news,d.nodup,d.inj,d.obj,d.all,d.hi,d.wf,d.bD,d.len,d.low,d.bt,d.gens,d.os,d.aZ⟩
 exact XJ p u i h j k z B C L (D.ge H.ge) G
end
end
theorem Qz (b:TabsAt e h₁)(x:h₁.NoSeer):(ghostOf h₁ e).NoSeer where
 statics:=Y x.statics λc a r=>⟨c,ghost_ns b a,r⟩
 mods:=Y x.mods λc a r=>⟨c,ghost_ns b a,r⟩
 imp:=Y x.imp λc a r=>⟨c,ghost_ns b a,r⟩
 main:=by obtain⟨f,g,ob,h,i,j,d,k⟩:=x.main;exact⟨f,g,ob,ghost_ns b h,i,ghost_get b j (λq=>by rw[q]at d;cases d),d,k⟩
noncomputable def vh:Led:=[(813,afe #[]),(146,afe #[]),(392,afe #[]),(302,afe #[])]
theorem wa (h:α[i]?=some P) (c:(P,afe #[])∈vh) (e:some (AO.tab P q)=some o):∃ a b,α[i]?=some a/\(a,b)∈vh/\OR W α vh i b o:=by
 have d:=aea e;clear e;subst d;exact bB P _ h c (.tab h (by first|trivial|exact .nil|constructor) λf g e=>aT e)
theorem XO (H:∀ r t lo d,oj (kM r t lo d) (gc r t lo d)) (I:∀ n,n<8->∀ r t lo d,oG n (kM r t lo d) (gc r t lo d))
  {prog:ae0}{w:afh}{g:afd}{L:Nat}{j:aep}{k:aec}{sc:aft}{cn:Str}{os:afn}{p:ae0}{u:List Str}{v x:Str->Option aec}{sl:KX}(M:prog.given.tree=none) (X:sl.K.In g) (T:TopRead p u v x g) (C:g.NoSeer) (hsc:sc=fG.scope)
  {a:aep}{vs:List aec}{ns:List Int}(R:g.IsList a vs.toArray) (l:IntsAre vs ns) (S:vs.length<=63){s:aeg}{m:Str->Option aec}(F:Fr g L s.heap m) (V:m "script" =some (.ref a)) (N:agD g L s.heap vh) (W:s.gens=#[]) (Z:s.os=os){Q:Flow->aeg->Prop}{E:aec->aeg->Prop}
  (hQ:∀ b m,Fr g L b.heap m->b.gens=#[]->b.os=os->GrownAll lX b.heap->Q (.ret (.bool true)) b):
  aeF (aeI prog w) (callerA.deeper (agT cn sc L j k)) (ahf fG.body (agT cn sc L j k)) Q E s:=by
 let y:Cx (W0 prog w sl [(a,vs)] os):=⟨callerA,g,[],g,L,agT cn sc L j k,agT cn sc L j k,none,[]⟩
 have D:lq (W0 prog w sl [(a,vs)] os) p u v x g:=⟨T,C,M⟩
 have hc:ak y:=⟨M1 VN,X,T.nolimit,below_caller g,by show sc.kind=_;rw [hsc];rfl,by show sc.kind=_;rw [hsc];rfl,rfl,rfl,rfl,rfl,⟨p,u,v,x,D⟩,by show (sc.names.map (·.1)).Nodup;rw [hsc];decide,X,⟨p,u,v,x,D⟩,T.nolimit,λ_=>rfl,(λ_ _ e=>nomatch e),λq z=>by rw [ael.mp z];exact R⟩
 have hA:aP y 27 (callerA.deeper (agT cn sc L j k)):=⟨rfl,aei (by kernel_rfl),aei (by kernel_rfl),rfl⟩
 have G:∃ o,g.get? afS=some o:=by
  obtain ⟨mm,⟨o,es,ep,e,_⟩,_⟩:=C.mods
  exact ⟨o,e⟩
 have qa:SR y (fy a) s [813,146,392,302] vh:=by
  refine ⟨⟨m,F,(NR.none (c:=y) rfl).mpr λn qb e=>?_⟩,(λ_ _ e=>nomatch e),by rw [agu];exact N,by rw [agu];decide,by decide,λi o l e=>?_,λqc hx=>aew (f:=(·.1)) (aew (f:=λa=>(a,afe #[])) hx),λq z=>?_,OM,aei rfl,rfl,afa _,(λ_ h=>nomatch h),W,Z,X.keeps F.keep⟩
  ·have e:lk n [(0,O.glob a)]=some qb:=e
   rw [eC] at e
   by_cases q:n=0
   ·rw [if_pos q] at e
    have bj:=aea e;clear e;subst q bj
    exact ⟨"script",.local,.ref a,by show sc.names[(0:Nat)]?=_;rw [hsc];rfl,V,.glob a⟩
   ·rw [if_neg q] at e;exact aT e
  ·have l:i<4:=l
   induction i using aez with
   |zero=>exact wa rfl (.head _) ((show kA.st.get 0=some (.tab 813 xP) by kernel_rfl).symm.trans e)
   |succ i=>
    induction i using aez with
    |zero=>exact wa rfl (.tail _ (.head _)) ((show kA.st.get 1=some (.tab 146 s9) by kernel_rfl).symm.trans e)
    |succ i=>
     induction i using aez with
     |zero=>exact wa rfl (.tail _ (.tail _ (.head _))) ((show kA.st.get 2=some (.tab 392 yJ) by kernel_rfl).symm.trans e)
     |succ i=>
      induction i using aez with
      |zero=>exact wa rfl (.tail _ (.tail _ (.tail _ (.head _)))) ((show kA.st.get 3=some (.tab 302 yH) by kernel_rfl).symm.trans e)
      |succ i=>exact absurd l (afk.mpr (agt 4 i))
  ·rw [agu] at z
   refine beq_eq_false_iff_ne.mpr λe=>?_
   refine aL G λom hom=>?_
   have:=(N q z).2.2
   rw [e,show g.get? afS=some om from hom] at this
   exact nj this
 refine VU H I l S hc rfl hA hsc rfl rfl G qa (λP B=>⟨#[],aew (f:=λa=>(a,afe #[])) B⟩) λb N' NN TT hF hg ho=>?_
 refine aL hF λm' F'=>?_
 have A:∀ P,P∈([813,146,392,302]:List aep)->GrownAt P b.heap:=λP B=>by
  refine aL (TT P B) λps h=>?_
  exact ⟨ps,(NN _ (aef _ h)).1⟩
 exact hQ b m' F' hg ho ⟨A 813 (.head _),A 146 (.tail _ (.head _)),A 392 (.tail _ (.tail _ (.head _))),A 302 (.tail _ (.tail _ (.tail _ (.head _)))),trivial⟩
theorem Uc (Hm:∀ r t lo df,oj (kM r t lo df) (gc r t lo df)) (Hr:∀ n,n<8->∀ r t lo df,oG n (kM r t lo df) (gc r t lo df)):WalkO qv lsN (XL qv []) hk.says ahu.row.toRowW m7 [] (λf vs=>afc f vs):=by
 intro w ad8 dk mg mb G Y fa o pm cd doc dV kV ho hd lR hD hmg hg args vals as adP adQ hrd hwl eT;obtain⟨⟨sl,KX⟩,hTb⟩:=Y;have X:=(Ground.X G).1;have V:=(Ground.X G).2;have pI:TabsAt lX dk.heap:=λq hq=>⟨FZ KX (aeB.mp (mn sl).hd q hq),hTb _ (aew hq)⟩
 refine Ground.open G ?_;intro T B D TE TW;clear hmg;wrow_args adP adQ hrd hwl eT;all_goals (
  refine enter_call ?_;w_top on;refine kn_post pI (λ_ _=>rfl) ?_
  w_call any ho hd lR hD T F;clear hd)
 rw [show m7.body=fG.body by kernel_rfl]
 have N1:=ghost_news pI F ‹agD _ _ _ []›;have hl:=ghost_list pI ‹dk.heap.IsList _ _›;have hi:=‹IntsAre _ _›;have T1:=topRead_of (ghost_top pI T);have F1:=ghost_fr pI F;refine XO (sl:=sl) Hm Hr ?_ (ghost_K pI KX (mn sl).nt) T1 ?_ ?_ hl hi ?_ (s:=Shared.mk _ _ _ _ _) F1 ?_ ?_ ?_ rfl λrH m F hg ho hG=>?_
 rotate_right
 ·exact⟨goodW_bool F hg (raisesW_false (by wrow_none_raised)) (by wrow_post) ho,hG⟩
 ·kernel_rfl
 ·exact Qz pI (T.seer (by kernel_rfl))
 ·kernel_rfl
 ·rw [hi.length];omega
 ·rfl
 ·exact N1
 ·exact hg
theorem b4{P:Bool->Bool->Bool->Bool->Prop}(b:P false false false false) (c:P false false false true) (d:P false false true false) (e:P false false true true) (f:P false true false false) (g:P false true false true) (h:P false true true false) (i:P false true true true) (j:P true false false false) (k:P true false false true) (l:P true false true false) (m:P true false true true) (n:P true true false false) (o:P true true false true) (p:P true true true false) (q:P true true true true):∀ r t lo a,P r t lo a:=
 λr t lo a=>aen (aen (aen (aen b c a) (aen d e a) lo) (aen (aen f g a) (aen h i a) lo) t) (aen (aen (aen j k a) (aen l m a) lo) (aen (aen n o a) (aen p q a) lo) t) r
noncomputable def DJ (x:Rs):Bool:=Rs.casesOn x (λa=>j1 false a true) (λb=>false) false
theorem G5{x:Rs}(h:DJ x=true):x=.ok .none:=by
 induction x using Rs.casesOn with
 |ok a=>induction a using O.casesOn<;>first|rfl|exact aX h
 |_=>exact aX h
theorem b8{P:Nat->Prop}(a:P 0)(b:P 1)(c:P 2)(d:P 3)(e:P 4)(f:P 5)(g:P 6)(i:P 7):∀ n,n<8->P n:=by
 intro n h
 iterate 8 (induction n using aez;assumption;rename_i n)
 exact absurd h (afk.mpr (agt 8 n))
noncomputable def zM (r t lo a:Bool):Bool:=DJ (L3 (kM r t lo a) (OO (gc r t lo a)) (λb=>L4 (kM r t lo a) b DI ib) ib)
noncomputable def zR (n:Nat) (r t lo a:Bool):Bool:=DJ (y3 (kR (kM r t lo a)) (kM r t lo a) (eG (gq n) (gc r t lo a)) (λb=>.ok .none) ib)
theorem XP:∀ r t lo a,zM r t lo a=true:=by apply b4<;>decide +kernel
theorem XQ:∀ n,n<8->∀ r t lo a,zR n r t lo a=true:=by apply b8<;>apply b4<;>decide +kernel
theorem runsM:∀ r t lo a,oj (kM r t lo a) (gc r t lo a):=λr t lo a=>G5 (XP r t lo a)
theorem runsR:∀ n,n<8->∀ r t lo a,oG n (kM r t lo a) (gc r t lo a):=λn h r t lo a=>G5 (XQ n h r t lo a)
theorem BJ:defOf qv jN.row.name=some (m7,[]):=by kernel_rfl
theorem adR:jN.row.prog.theDef jN.row.name=some (m7.params,m7.body,m7.scope):=by kernel_rfl
theorem hkw:kwWritten? m7.params.kwonlyargs m7.params.kw_defaults=some []:=by kernel_rfl
theorem fq:(!jN.row.writes ||jN.row.records.isEmpty)=true:=by kernel_rfl
theorem abh:jN.row.prog.bare:=⟨rfl,rfl,rfl,rfl,rfl,by decide +kernel⟩
theorem nB:(chainsOk qv&&opensWell jN.row.prog&&(frees jN.row.toRowW&&jN.row.within.isEmpty))=true:=by decide +kernel
theorem abi:jN.row.toRowW.promised:=RowW.promised_of_found (by decide +kernel)
theorem fin (b:∀ r t lo a,oj (kM r t lo a) (gc r t lo a)) (c:∀ n,n<8->∀ r t lo a,oG n (kM r t lo a) (gc r t lo a)):jN.Holds:=
 holds_law adm λd=>holds_open left hk.of hk.keeps (λs e=>xl_of s (ad9.mp e).1) XL.keeps BJ adR hkw (λs e=>recFacts_of (ad9.mp e).2) fq d nB abh abi (Uc b c)
end
end Eng
theorem PySem.Challenge.cw_ot0046_01_holds : PySem.Challenge.rw_ot0046_01.Holds :=
  Eng.fin Eng.runsM Eng.runsR
