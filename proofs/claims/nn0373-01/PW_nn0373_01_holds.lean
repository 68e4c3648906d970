import PyProof.Rows.All
import Wide.All
import OpenK.AllK
import Wide.FinOn
import PyProof.AttrMissHeap
import KE.KPar
import PyProof.ExcInit
import PyProof.ExcArgsOwn
import PyProof.ExcAttrAll.Exception
import Lean
import PySem.Challenge.RW_nn0373_01
set_option Elab.async false
set_option maxRecDepth 100000
set_option genInjectivity false
set_option genSizeOf false
set_option linter.all false
set_option compiler.extract_closed false
universe u
@[elab_as_elim] theorem Mine.rwE {α:Sort u} {a b:α} {P:α->Prop} (h:a=b) (e:P b):P a:=h▸e
local macro_rules
  | `(tactic| rw [$e:term]) => `(tactic| first | (refine Mine.rwE $e ?_; try (with_reducible rfl)) | (refine Mine.rwE ($e ..) ?_; try (with_reducible rfl)) | (rewrite [$e:term]; try (with_reducible rfl)))
local macro_rules
  | `(tactic| rw [← $e:term]) => `(tactic| first | (refine Mine.rwE (Eq.symm $e) ?_; try (with_reducible rfl)) | (rewrite [← $e:term]; try (with_reducible rfl)))
local macro_rules
  | `(tactic| rw [$e:rwRule, $es,*]) => `(tactic| (rw [$e]; rw [$es,*]))
local macro_rules
  | `(tactic| rw [$e:term] at $h:ident) => `(tactic| first | (replace $h := $e ▸ $h) | (rewrite [$e:term] at $h:ident; try (with_reducible rfl)))
local macro_rules
  | `(tactic| rw [$e:rwRule, $es,*] at $h:ident) => `(tactic| (rw [$e] at $h:ident; rw [$es,*] at $h:ident))
inductive Mine.A2 (a b:Prop):Prop | mk:a->b->A2 a b
@[simp] theorem Mine.A2.iff {a b:Prop}:A2 a b↔And a b:=⟨λ h=>⟨h.1,h.2⟩,λ h=>⟨h.1,h.2⟩⟩
local macro_rules | `($a ∧%$t $b) => if t.isToken "∧" then `(Mine.A2 $a $b) else Lean.Macro.throwUnsupported
open PySem renaming Addr→ak,Value→aE,wpAny_bind→aG,wpAny→aR,Str→aW,model→aX,Heap→a3,Shared→a4,wpAny_pure→bl,Env→b0,Pos→cn,Loc→cq,Expr→cu,wpAny_mono→cL,Around→c8,Obj→dq,wpAny_holding→eb,cLine→ee,Params→eg,Step→eB,Reach→fg,World→fp,wpAny_standAt→fA,Stmt→fT,Program→gi,callEnvC→gQ,Scope→ia,mainGlobals→ib,SetTable→jb,codeAny→jc,sizeLine_eq→jX,DictEntry→lH,FuncData→lI,intKind→mg,starEach→nc,OsState→oc,compareOp→od,assign→oi,CmpOp→pn,Result→ps,backTo→px,excClassObj→pA,rawInt→qH,NameKind→qI,Flow→qJ,wpAny_loadPart_at→qK,sizeLine→sx,Operator→uh,call_meets→ui,getMethod→uC,execs→uE,wpAny_execs_cons→uF,wpAny_rule→wm,wpAny_call_entry→wq,Model→wC,wpAny_call→wH,codeAny_mono→wI,assignEach→wK,attributeBase→wL,treeTable→wQ,sysModules→zr,builtinsNs→zv,getItem→zw,typeOf→zB,GenState→zH,loadName→zI,swapsWith→zK,bindL→zP,bindC→zQ,cellsFrom→zR,checkBuiltinCall→zT,wpAny_isSubtype_exc→zU,hashInt→CT,binaryOp→CZ,dictGet→C2,truthy→C5,wpAny_loadPart→C7,setItem→C8,codeAny_builtin→Dg,wpAny_ite_false→Dn,pyNext→Dp,cameBackBy→Ds,notedBy→Dt,wpAny_field→Dw,importedModules→DA,reduceHash→Ic,wpAny_specialOf→Ig,isInstance→Ih,wpAny_point→Ik,wpAny_truthy_bool→Il,subscripted→Ip,operate→Iq,setAttr→Iu,wpAny_newList→IE,setState→IQ,wpAny_setState_of→IT,holding→IU,codeAny_call_builtin→IW,wpAny_loadName_local→IX,arm_assign_Name→IZ,spliced→I0,backToKw→I1,keywordEach→I2,compEnvC→I3,noteFrame→I5,dictSetDefault→Sb,slot_dict_contains→Sd,wpAny_eqBool_int→Se,wpAny_sequenceKey→Sf,wpAny_callSpecial?_slot→Sg,slot_dict_getitem→Sh,wpAny_nsSet1→Sk,wpAny_lookBehind→Sl,pastItsLine_dict→Sm,wpAny_notOrdered_dict→So,wpAny_newTuple→SE,plainId_quiet→SJ,wpAny_pyIter_list→SQ,codeAny_of_tree→SR,loadGlobal→SW,wpAny_nsGet→SX,assignInOrder→S0,behindInMarks→S2,wpAny_Constant_int→S5,arm_eval_Call→S7,methodCall→S8,methodCallPos→S9,letOwnedTupleGo→Ta,wpAny_release→Td,wpAny_Return_some→Te,wpAny_setField→Tg,mem_of_lookup_some→Tn,opaqueClassAbove→Tr,eqIsQuiet_byValue→agP,wpAny_dictEntries→agT,wpAny_updateDictKeys→agV,slot_list_getitem→agX,slot_list_setitem→ag2,slot_dict_setitem→ag3,wpAny_collect_seq→ahf,getattributeRaised→ahi,wpAny_pyIter_tuple→ahk,wpAny_storeSet_of→ahy,wpAny_storeName_local→ahH,assign→ahI,wpAny_Constant_none→ahL,wpAny_isTrue_Compare1→ahM,arm_eval_Attribute→ahN,wpAny_letTemporaryGo→ahO,arm_eval_Subscript→ahP,wpAny_newObj_type→ahQ,wpAny_comprehension_free→ahU,arm_assign_Attribute→ahV,codeAny_call_function→ah0,wpAny_newFunctionEnv_cells→ah1,wpAt_bind→ah9,wpAt_of_wpAny→aia
open Nat renaming lt_of_le_of_lt→a9,lt_of_lt_of_le→bx,le_trans→bB,le_of_eq→bE,le_of_lt→bF,lt_trans→bX,le_antisymm→dg,le_refl→dn,zero_le→dz,sub_add_cancel→ef,ne_of_lt→e6,le_of_not_lt→fD,le_add_right→fJ,not_succ_le_zero→fR,lt_succ_self→gj,testBit_or→hA,le_of_lt_succ→iw,lt_irrefl→iP,zero_add→me,ne_of_gt→m7,succ_pos→m9,min_le_left→oa,lt_of_succ_lt→ob,add_le_add_left→pl,lt_or_ge→pv,eq_of_testBit_eq→pC,add_right_comm→qG,sub_self→qM,succ_le_of_lt→su,lt_of_le_of_ne→sA,lt_of_succ_lt_succ→sC,le_succ→sF,add_zero→sH,le_add_left→uf,succ_le_succ→ug,lt_or_eq_of_le→uo,sub_le→ur,lt_of_succ_le→uu,or_comm→uJ,add_lt_add_left→wt,min_le_right→wu,not_lt_zero→wy,not_lt_of_le→wz,testBit_lt_two_pow→w0,add_assoc→zq,blt→zV,succ_mul→zX,pow_le_pow_right→zY,and_comm→z0,eq_zero_or_pos→z1,lt_succ_of_le→Dd,mod_lt→Dh,le_succ_of_le→DD,or_lt_two_pow→DF,or_self→DJ,or_assoc→DK,mul_le_mul_right→Ia,add_comm→Ie,succ_ne_self→Iz,add_sub_of_le→IB,lt_of_not_le→IC,div_eq_of_lt→IK,not_le_of_lt→I4,beq→Ja,le_total→Jd,testBit_and→Ji,zero_testBit→Jj,add_le_add→R3,le_of_succ_le_succ→R4,lt_add_of_pos_right→Su,le_of_succ_le→Sv,succ_lt_succ→Sw,sub_lt_sub_left→Sx,max_eq_left→Sy,pow_succ→SK,beq_refl→Ts,zero_or→TB,le_of_ble_eq_true→agG,lt_trichotomy→ahc,div_div_eq_div_mul→ahm,lt_succ_of_lt→ahT,add_sub_cancel_left→ah8,eq_of_beq_eq_true→aif,min_eq_left→aii,max_eq_right→aiu,succ_ne_zero→aix
open PySem.Str renaming ofString→bj
open List renaming mem_map→bH,mem_singleton→b3,range→cg,length_map→cz,getElem?_eq_some_iff→cF,length_append→cI,mem_of_getElem?→cY,getElem?_eq_getElem→c4,mem_append→c6,mem_cons→dZ,replicate→eQ,map_append→eR,getD_eq_getElem?_getD→eS,map_map→e5,map_cons→fe,getElem?_map→ff,mem_range→fK,length_cons→f7,mem_append_left→f9,nodup_append→gx,length_range→gy,length→gz,getElem?_set_self→hP,append_nil→h9,mem_append_right→ix,getElem?_set_ne→iS,getElem_mem→jd,length_set→je,append_assoc→jy,getElem?_append_right→jA,getElem?_append_left→jY,map_congr_left→kf,forall_mem_cons→kg,foldl_append→ki,nodup_cons→kP,mem_filter→kS,all_eq_true→kT,map_nil→kU,getElem_of_mem→mi,length_take→mj,length_replicate→mn,length_singleton→nd,mem_flatMap→nf,take_add_one→og,getElem?_of_mem→oh,filter_append→pD,getElem?_eq_none→qD,getElem_inj→qF,length_filter_le→qN,getElem_map→sD,ext_getElem→uv,foldl_cons→uz,lookup_cons→uD,eq_nil_of_length_eq_zero→wi,size_toArray→wA,drop_eq_getElem_cons→wD,take_append_drop→wF,map_set→wR,mem_or_eq_of_mem_set→wW,range_succ→wX,take_of_length_le→wY,sum_cons→wZ,flatMap_append→w1,not_mem_nil→zm,length_eq_one_iff→zo,reverse_cons→zp,take_length→zD,getElem?_replicate→zN,cons_append→zW,flatMap_cons→zZ,find?_cons→C1,nodup_nil→C3,nodup_range→C9,getElem_range→De,mergeSort_perm→Df,filter_cons_of_neg→Dj,filter_cons_of_pos→Dk,mem_filterMap→Dl,mem_of_mem_take→Dm,getD_cons_succ→DB,getElem?_range→DC,set_getElem_self→DI,mem_map_of_mem→Im,toArray→ID,pairwise_mergeSort→IF,mem_of_mem_drop→IM,mem_cons_self→IV,map_eq_nil_iff→Jc,filter_eq_nil_iff→Je,getElem?_cons_zero→Jf,map_inj_right→Jg,flatMap_singleton→Jl,mem_iff_getElem?→R5,forIn_cons→R6,foldl→R9,any_eq_false→Si,take_left→Sq,pairwise_map→SH,find?_some→SO,of_mem_zip→S1,finRange→S6,drop_length→Tb,zip_cons_cons→Ti,contains_cons→To,map→Tq,getD_cons_zero→Tt,zipIdx_append→Tw,map_id→Tz,length_nil→TA,getElem?_eq_none_iff→TC,ext_getElem?→agH,drop_nil→agI,take_nil→agJ,cons_ne_nil→agK,cons_eq_cons→agM,nil_append→agO,drop_zero→agZ,drop_eq_nil_of_le→ag9,pairwise_iff_getElem→ahe,find?_eq_none→ahp,filterMap_cons_some→ahu,mem_cons_of_mem→ahA,reverse_reverse→ahJ,mem_reverse→ahR,contains_iff_mem→ahS,mem_finRange→ah4,map_inj_left→ah6,length_drop→ah7,filterMap_cons→aih,eq_nil_or_concat→aik,concat_eq_append→ail,set_cons_succ→aim,map_mergeSort→ain,mergeSort→aio,getElem_take→aip,pairwise_and_iff→air,drop_append_of_le_length→ais,eq_nil_iff_forall_not_mem→ait,append_inj'→aiv,flatMap_map→aiw,map_filterMap→aiy,pairwise_lt_range→aiA
open PyProof.Rows renaming Good→cD,seqObj→hg,Off→hO,tail_any→zy,subscriptTail→Ir,get?_update_seq→Sz,listUpdate_at→SA,seqEpoch_at→SD,loadName_read→SV,slot_tuple_getitem→agW
open PySem.W renaming Frag→dt,nsIn→kh,maskOf→kj,alive→mq,typeIn→oe,boot_heap→pB,Alike→sv,InstAt→sz,looks_findIn→sG,handedIn→uk,Looks→uw,emptyDict→uH,SharedT→uI,instObj→wN,clsIn→wO,notCls→zt,hasDictIn→zu,within→zz,looks_nsIn→zJ,call_cls→zS,findCls→Dz,any_some→Iv,looks_clsIn→Iw,kas_rev→IA,boot_drawn→I7,boot_toks→I8,topFrom→I9
open Option.some renaming inj→dA,injEq→DH
open PySem.Heap renaming get?_push_of_some→dP,get?_push_size→hc,lt_size→iu,SameBut→n9,get?_update_self→sy,get?_update_other→wB,size_push→Tc,MadeExcOf→aib,get?_none_of_le→aic
open Bool renaming and_eq_true_iff→d6,false_ne_true→fS,or_eq_true→wV,false_eq_true→zA,not_eq_true'→zL,noConfusion→zM,and_eq_true→Dr,true_or→Jb,or_eq_true_iff→Sa,false_or→Tp,or_true→Tu
open LawfulBEq renaming eq_of_beq→ed
open Classical renaming byContradiction→eo,not_not→Tj,choose→aiB,choose_spec→aiC
open PySem.Data renaming noConfusion→e4
open Int.ofNat renaming inj→fU
open Option renaming isSome_iff_exists→hh,map_eq_some_iff→iv,eq_none_iff_forall_ne_some→kO,none→sr,isSome→C4,map_some→DE,getD_some→Jh,getD→Sr,bind_eq_some_iff→SY,isSome_map→Tx,bind_some→ahr,ne_none_iff_exists'→ahK,or_none→ahZ,isSome_some→aij
open Int renaming ofNat_lt→hx,ofNat_le→mf,ofNat→ml,natCast_nonneg→m6,lt_of_le_of_lt→wk,not_lt→zx,le_trans→C0,lt_trans→C6,le_of_lt→IG,fmod_eq_emod_of_nonneg→Jk,toNat_of_nonneg→Sn,emod_nonneg→SM,fdiv_eq_ediv_of_nonneg→agS,max_eq_right→ahg,max_eq_left→ahh,emod_lt_of_pos→ahn,natCast_pos→aiq,ofNat_ne_zero→aiD
open Ne renaming symm→hy
open PySem.PyData renaming strOk→iQ,depthAll→agL
open PySem.Obj renaming mapSeq→iR,mapFields→zO,data_mapFields→Du,putSet→IS,data→Th,mapDictKeys→agU,isFreed_of_fields→ahW,cls_mapFields→ahY
open Array renaming getElem?_toList→jz,length_toList→pq,getElem?_eq_getElem→uj,getD_eq_getD_getElem?→um,toList_push→CW,toList_append→Ij,mem_toList_iff→Io,getElem?_eq_some_iff→It,perm_iff_toList_perm→Iy,mk→I6,forIn_toList→R7,getD→Ss,toList_inj→SF,size_map→SG,find?_toList→ag0,replicate→ahq,toList_extract→ahv,toList_filterMap→ahx,size_setIfInBounds→ahX
open PySem.Value renaming ref→kQ,none→mh,builtin→wo,type→wG,noConfusion→Dv,isStrOf→ah3,isInt→ah5
open PySem.SetTable renaming bits→kR,sizeAbove→pw,runEnd→sE,Probe→uy,insertAt→uA,turns→zF,grown→zG,fits→IP,advance→SN,leap→ahl,has→aho,laid→ahs,layClean→aht,fill→ahw,tooFull→ahz
open Prod renaming fst→m8,snd→pz,ext→ux
open PySem.Heap.SameBut renaming update→qE
open PySem.Challenge renaming rw_nn0373_01→qL
open PySem.W.KasT renaming kasWp→uq,kasWp_bind→Dc
open PySem.F renaming called_set→uB,excBase_Exception→Dy,plainAttrs_list→IY,slot_list_append→Sp,slot_tuple_getattribute→SI,slot_tuple_hash→agN,slot_int_rmul→agR,slot_list_index→ag4,entry_list_append→ag5,args_list_append_2→ag6,slot_list_extend→ag7,slot_list_pop→ag8,slot_dict_get→aha,slot_dict_setdefault→ahb,plainAttrs_dict→ahE
open Exists renaming elim→uG
open ForIn renaming forIn→wj
open Nat.succ renaming inj→wx
open PySem.NameKind renaming noConfusion→wJ,cell→Dx
open PySem.Value.ref renaming inj→wM
open Function renaming comp→wU
open PySem.W.Looks renaming of_pure→zC,here→Sj
open PySem.SetTable.probe renaming go→zE
open PySem.Builtin.Tuple renaming tupleHashOf→CU
open ForInStep renaming yield→CV
open ToString renaming toString→CX
open PySem.Builtin renaming bitNot→CY,bitAnd→R8,bitOr→agQ
open PySem.SetTable.layClean renaming free→Di
open PySem.Walks renaming list→Dq,tuple→II,range→ahF,dictKeys→ahG
open List.Pairwise renaming map→DG,filter→IL,nil→ah2,filterMap→aiz
open List.cons renaming inj→Ib,injEq→Tv
open PySem.Txt renaming slice→Ii
open PySem.Around renaming under_plainId→IH,in1→ahC
open PySem.Shared renaming TypeIs→IJ
open PyProof.Rows.F renaming plain_set_update_loop→SP,entry_set_update_loop→ahB
open PySem.Code renaming quiet_builtin→SS
open PySem.Env renaming kindOf→SU
open PySem.Calls renaming spliced_nil→S3,spliced_cons→S4
open PySem.EntryCells renaming newEntry→Tf
open PySem.Heap.IsSliceOf renaming new→agY
open PySem.DictEntry renaming refKey→ag1
open Array.Perm renaming refl→ahd
open PySem.Builtin.Dict renaming updateFrom→ahj
open PySem.IsRange renaming new→ahD
open PySem.Manifest renaming isStub→aid
open Prod.mk renaming inj→aie
open PySem.SeqRoads2.EqGives renaming str→akg
open PySem.Builtin.Frozenset renaming updateFrom→akh
section
namespace Mine
section
noncomputable abbrev aw:=List Nat
noncomputable abbrev a8:=List (Nat×Nat)
noncomputable abbrev cO:=List Bool
inductive X | v (i:Nat) | k (n:Nat) | a (x y:X) | m (n:Nat) (x:X) | w (n:Nat) (x:X) | s (x:X)
inductive oj | g (x y:X) (n:Nat:=1) | l (x y:X) (t:oj) (n:Nat:=1) | e (x y:X) (t:oj) (n:Nat:=1) | f (x y:X) (t:oj) (n:Nat:=1)
noncomputable abbrev X.p:=X.v 0
noncomputable abbrev X.q:=X.v 1
noncomputable abbrev X.r:=X.v 2
noncomputable abbrev X.t:=X.v 3
noncomputable abbrev X.u:=X.v 4
noncomputable abbrev X.z:=X.v 5
noncomputable abbrev X.o:=X.k 1
noncomputable def Da:aw->Nat->Nat
 | [],_=>0
 | x::xs,i=>match i with | 0=>x | i+1=>Da xs i
noncomputable def X.den (A:aw):X->Nat
 | v i=>Da A i
 | k n=>n
 | a x y=>x.den A+y.den A
 | m n x=>n*x.den A
 | w n x=>x.den A*n
 | s x=>x.den A+1
def oj.D (A:aw):oj->Prop
 | .g x y _=>x.den A<=y.den A
 | .l x y t _=>x.den A<=y.den A->t.D A
 | .e x y t _=>x.den A=y.den A->t.D A
 | .f x y t _=>x.den A=y.den A->t.D A
noncomputable def iT:aw->aw->aw
 | [],q=>q
 | c::p,q=>match q with | []=>c::p | d::q=>(c+d)::iT p q
noncomputable def hB:aw->aw->Nat
 | [],_=>0
 | c::p,A=>match A with | []=>0 | x::A=>c*x+hB p A
noncomputable def z2:aw->aw->Bool
 | [],_=>true
 | c::p,q=>match q with | []=>c==0&&z2 p [] | d::q=>Nat.ble c d&&z2 p q
noncomputable def Do:Nat->aw
 | 0=>[1]
 | i+1=>0::Do i
noncomputable def X.jB:X->aw
 | v i=>0::Do i
 | k n=>[n]
 | a x y=>iT x.jB y.jB
 | m n x=>x.jB.map (n* ·)
 | w n x=>x.jB.map (n* ·)
 | s x=>iT x.jB [1]
noncomputable def oj.ok:oj->aw->aw->Bool
 | .g x y n,P,Q=>z2 (iT (iT Q (x.jB.map (n* ·))) [1]) (iT P ((iT y.jB [1]).map (n* ·)))
 | .l x y t n,P,Q=>t.ok (iT P (x.jB.map (n* ·))) (iT Q (y.jB.map (n* ·)))
 | .e x y t n,P,Q=>t.ok (iT P (x.jB.map (n* ·))) (iT Q (y.jB.map (n* ·)))
 | .f x y t n,P,Q=>t.ok (iT P (y.jB.map (n* ·))) (iT Q (x.jB.map (n* ·)))
theorem ww:∀(p q A:aw),hB (iT p q) A=hB p A+hB q A:=by
 intro p
 induction p with
 | nil=>exact λ _ _=>(me _).symm
 | cons c p ih=>intro q;cases q with
  | nil=>exact λ _=>rfl
  | cons d q=>intro A;cases A with
   | nil=>rfl
   | cons x A=>
    show (c+d)*x+hB (iT p q) A=(c*x+hB p A)+(d*x+hB q A);rw [ih q A,Nat.add_mul,Nat.add_add_add_comm]
theorem z3 (n:Nat):∀(p A:aw),hB (p.map (n* ·)) A=n*hB p A:=by
 intro p
 induction p with
 | nil=>exact λ _=>rfl
 | cons c p ih=>intro A;cases A with
  | nil=>rfl
  | cons x A=>
   show n*c*x+hB (p.map (n* ·)) A=n*(c*x+hB p A);rw [ih A,Nat.mul_add,Nat.mul_assoc]
theorem SB:∀(p q A:aw),z2 p q=true->hB p A<=hB q A:=by
 intro p
 induction p with
 | nil=>exact λ _ _ _=>dz _
 | cons c p ih=>intro q A;cases A with
  | nil=>exact λ _=>dz _
  | cons x A=>cases q with
   | nil=>
    intro h;have h:=d6.mp h;show c*x+hB p A<=0;rw [ed h.1,Nat.zero_mul,me];exact ih [] A h.2
   | cons d q=>exact λ h=>R3 (Ia x (agG (d6.mp h).1)) (ih q A (d6.mp h).2)
theorem SZ:∀(i:Nat) (A:aw),hB (Do i) A=Da A i:=by
 intro i
 induction i with
 | zero=>intro A;cases A with
  | nil=>rfl
  | cons x A=>exact Nat.one_mul x
 | succ i ih=>intro A;cases A with
  | nil=>rfl
  | cons x A=>exact (congrArg (· +_) (Nat.zero_mul x)).trans ((me _).trans (ih A))
theorem X.IR (A:aw) (x:X):hB x.jB (1::A)=x.den A:=by
 induction x with
 | v i=>exact (me _).trans (SZ i A)
 | k n=>exact Nat.mul_one n
 | a x y p q=>exact (ww ..).trans (congr (congrArg _ p) q)
 | m n x p=>exact (z3 ..).trans (congrArg _ p)
 | w n x p=>exact (z3 ..).trans ((congrArg _ p).trans (Nat.mul_comm ..))
 | s x p=>exact (ww ..).trans (congrArg (· +1) p)
theorem z4 {A p q:aw} {n:Nat} {x y:X} (h:hB p (1::A)<=hB q (1::A)) (e:x.den A<=y.den A):hB (iT p (x.jB.map (n* ·))) (1::A)<=hB (iT q (y.jB.map (n* ·))) (1::A):=by
 rw [ww,ww,z3,z3,X.IR,X.IR];exact R3 h (Nat.mul_le_mul_left n e)
theorem oj.sound {A:aw} (c:oj):∀(p q:aw),hB p (1::A)<=hB q (1::A)->c.ok p q=true->c.D A:=by
 induction c with
 | g x y n=>
  intro p q h k;refine fD λ e=> ?_;have a:=SB _ _ (1::A) k;have b:hB (iT p ((iT y.jB [1]).map (n* ·))) (1::A)<=_:=z4 (x:= .s y) (y:=x) (n:=n) h e;rw [ww _ [1]] at a;exact iP _ (bB a b)
 | l x y t n ih=>exact λ p q h k e=>ih _ _ (z4 h e) k
 | e x y t n ih=>exact λ p q h k e=>ih _ _ (z4 h (bE e)) k
 | f x y t n ih=>exact λ p q h k e=>ih _ _ (z4 h (bE e.symm)) k
section
variable {a b c d e f g h i j:Nat} (t:oj) (k:t.ok [] []=true)
include k
theorem qO:t.D []:=t.sound [] [] (dn _) k
theorem ct:t.D [a]:=t.sound [] [] (dn _) k
theorem bD:t.D [a,b]:=t.sound [] [] (dn _) k
theorem ci:t.D [a,b,c]:=t.sound [] [] (dn _) k
theorem eZ:t.D [a,b,c,d]:=t.sound [] [] (dn _) k
theorem hC:t.D [a,b,c,d,e]:=t.sound [] [] (dn _) k
theorem uK:t.D [a,b,c,d,e,f]:=t.sound [] [] (dn _) k
theorem qP:t.D [a,b,c,d,e,f,g]:=t.sound [] [] (dn _) k
theorem aiE:t.D [a,b,c,d,e,f,g,h]:=t.sound [] [] (dn _) k
theorem TF:t.D [a,b,c,d,e,f,g,h,i]:=t.sound [] [] (dn _) k
theorem aiF:t.D [a,b,c,d,e,f,g,h,i,j]:=t.sound [] [] (dn _) k
end
theorem sb (a b:Nat):a<=a - b+b:=Nat.sub_add_eq_max a b▸Nat.le_max_left a b
end
end Mine
end
section
open PySem PySem.W PyProof.Rows PySem.Calls
namespace Mine
variable {h h':a3}
section
inductive dB.{kV,iU} {α:Sort kV} {β:Sort iU} (P:α->β->Prop):Prop | mk (a:α) (b:β):P a b->dB P
theorem dB.elim {α:Sort _} {β:Sort _} {P:α->β->Prop} {c:Prop} (h:dB P) (f:∀a b,P a b->c):c:=h.rec f
inductive hi.{kV,iU,sI} {α:Sort kV} {β:Sort iU} {z5:Sort sI} (P:α->β->z5->Prop):Prop | mk (a:α) (b:β) (c:z5):P a b c->hi P
theorem hi.elim {α:Sort _} {β:Sort _} {d:Sort _} {P:α->β->d->Prop} {q:Prop} (h:hi P) (f:∀a b c,P a b c->q):q:=h.rec f
inductive gR (a b c:Prop):Prop | mk:a->b->c->gR a b c
inductive iV (a b c d:Prop):Prop | mk:a->b->c->d->iV a b c d
inductive jC (a b c d e:Prop):Prop | mk:a->b->c->d->e->jC a b c d e
inductive eT (a b c d e f:Prop):Prop | mk:a->b->c->d->e->f->eT a b c d e f
theorem no {α:Type} {x:α} {P:Prop} (h:sr=some x):P:=(by cases h)
theorem hQ {α:Type _} {x:α} {P:Prop} (h:x∈([]:List α)):P:=(zm h).elim
theorem TG {α:Type} {l:List α} {a b:α} (h:l.length<=2) (h0:l[0]? =some a) (J:l[1]? =some b):l=[a,b]:=agH λ i=>by
 cases i with
 | zero=>exact h0
 | succ i=>cases i with
  | zero=>exact J
  | succ i=>exact (qD (bB h (uf 2 i))).trans (qD (l:=[a,b]) (uf 2 i)).symm
theorem Jm {α:Type} {l:List α} (h:l.length<=1):l=[]∨∃a,l=[a]:=(Nat.le_one_iff_eq_zero_or_eq_one.mp h).imp List.length_eq_zero_iff.mp zo.mp
theorem TH {α:Type} {l:List α} (h:1<l.length):hi λ a b t=>l=a::b::t:=by
 cases l with
 | nil=>exact absurd h (fR _)
 | cons x l=>
  cases l with
  | nil=>exact absurd (R4 h) (fR _)
  | cons y l=>exact ⟨x,y,l,rfl⟩
noncomputable abbrev cH:=List aE
noncomputable abbrev cA:=aE->a4->Prop
noncomputable abbrev gk:=List cu
noncomputable abbrev bZ:=List aW
noncomputable abbrev gb:=List ak
abbrev aP:=Nat
noncomputable abbrev aP.bits:aP:=0
noncomputable abbrev aP.spread:aP:=1
noncomputable abbrev aP.DL:aP:=2
noncomputable abbrev aP.z6:aP:=3
noncomputable abbrev aP.DM:aP:=4
noncomputable abbrev aP.hj:aP:=5
noncomputable abbrev aP.kW:aP:=6
noncomputable abbrev aP.DN:aP:=7
noncomputable abbrev aP.DO:aP:=8
noncomputable abbrev aP.DP:aP:=9
noncomputable abbrev aP.Jn:aP:=10
noncomputable abbrev aP.clashes:aP:=11
noncomputable abbrev aP.Jo:aP:=12
noncomputable abbrev aP.Jp:aP:=13
noncomputable abbrev aP.DQ:aP:=14
noncomputable abbrev aP.DR:aP:=15
noncomputable abbrev aP.jD:aP:=16
noncomputable abbrev aP.numbered:aP:=17
noncomputable abbrev aP.om:aP:=18
noncomputable abbrev aP.iy:aP:=19
noncomputable abbrev aP.fq:aP:=20
noncomputable abbrev aP.DS:aP:=21
noncomputable abbrev aP.Jq:aP:=22
noncomputable abbrev aP.Jr:aP:=23
noncomputable abbrev aP.Js:aP:=24
noncomputable abbrev aP.DT:aP:=25
noncomputable abbrev aP.Jt:aP:=26
noncomputable abbrev aP.DU:aP:=27
noncomputable abbrev aP.DV:aP:=28
noncomputable abbrev aP.jE:aP:=29
noncomputable abbrev aP.aiG:aP:=30
noncomputable abbrev aP.aiH:aP:=31
noncomputable abbrev aP.z7:aP:=32
noncomputable abbrev aP.z8:aP:=33
noncomputable abbrev aP.z9:aP:=34
noncomputable abbrev aP.Aa:aP:=35
noncomputable abbrev aP.Ab:aP:=36
noncomputable abbrev aP.Ju:aP:=37
noncomputable abbrev aP.Ac:aP:=38
noncomputable abbrev aP.w2:aP:=39
noncomputable abbrev aP.DW:aP:=40
noncomputable abbrev aP.DX:aP:=41
noncomputable abbrev aP.Ad:aP:=42
noncomputable abbrev aP.Ae:aP:=43
noncomputable abbrev aP.uL:aP:=44
noncomputable abbrev aP.w3:aP:=45
noncomputable abbrev aP.Af:aP:=46
noncomputable abbrev aP.Ag:aP:=47
noncomputable abbrev aP.Ah:aP:=48
noncomputable abbrev aP.sJ:aP:=49
noncomputable abbrev aP.Ai:aP:=50
noncomputable abbrev aP.qQ:aP:=51
noncomputable abbrev aP.Aj:aP:=52
noncomputable abbrev aP.Jv:aP:=53
noncomputable abbrev aP.sL:aP:=54
noncomputable abbrev aP.Jw:aP:=55
noncomputable abbrev aP.Jx:aP:=56
noncomputable abbrev aP.Jy:aP:=57
noncomputable abbrev aP.Jz:aP:=58
set_option genInjectivity true in
inductive ai
 | none | bool (b:Bool) | int (i:Int) | str (s:aW) | tup (vs:List ai) | ref (a:ak) | fn (g:aP) | ic (lo ah:Int)
 deriving Inhabited
noncomputable abbrev aV:=List ai
inductive dk {α β:Type} (R:α->β->Prop):List α->List β->Prop
 | nil:dk R [] []
 | cons {a b as bs}:R a b->dk R as bs->dk R (a::as) (b::bs)
section
variable {α β:Type} {R S:α->β->Prop} {as cs:List α} {bs ds:List β}
theorem dk.imp (f:∀a b,R a b->S a b) (x:dk R as bs):dk S as bs:=by
 induction x with
 | nil=>exact .nil
 | cons h _ ih=>exact .cons (f _ _ h) ih
theorem dk.length (x:dk R as bs):as.length=bs.length:=by
 induction x with
 | nil=>rfl
 | cons _ _ ih=>exact congrArg (· +1) ih
theorem dk.get (x:dk R as bs):∀{i:Nat} {b:β},bs[i]? =some b->∃a,as[i]? =some a∧R a b:=by
 induction x with
 | nil=>exact λ e=>no e
 | cons h _ ih=>intro i;cases i with
  | zero=>exact λ e=>⟨_,rfl,dA e▸h⟩
  | succ i=>exact ih
theorem dk.get' (x:dk R as bs):∀{i:Nat} {a:α},as[i]? =some a->∃b,bs[i]? =some b∧R a b:=by
 induction x with
 | nil=>exact λ e=>no e
 | cons h _ ih=>intro i;cases i with
  | zero=>exact λ e=>⟨_,rfl,dA e▸h⟩
  | succ i=>exact ih
theorem dk.append (x:dk R as bs) (y:dk R cs ds):dk R (as++cs) (bs++ds):=by
 induction x with
 | nil=>exact y
 | cons h _ ih=>exact .cons h ih
theorem dk.reverse (x:dk R as bs):dk R as.reverse bs.reverse:=by
 induction x with
 | nil=>exact .nil
 | cons h _ ih=>rw [zp,zp];exact ih.append (.cons h .nil)
theorem dk.drop (x:dk R as bs):∀n,dk R (as.drop n) (bs.drop n):=by
 induction x with
 | nil=>intro n;rw [agI,agI];exact .nil
 | cons h x ih=>intro n;cases n with
  | zero=>exact .cons h x
  | succ n=>exact ih n
theorem dk.take (x:dk R as bs):∀n,dk R (as.take n) (bs.take n):=by
 induction x with
 | nil=>intro n;rw [agJ,agJ];exact .nil
 | cons h x ih=>intro n;cases n with
  | zero=>exact .nil
  | succ n=>exact .cons h (ih n)
theorem dk.set (x:dk R as bs) {a:α} {b:β} (r:R a b):∀i,dk R (as.set i a) (bs.set i b):=by
 induction x with
 | nil=>exact λ _=> .nil
 | cons h x ih=>intro i;cases i with
  | zero=>exact .cons r x
  | succ i=>exact .cons h (ih i)
theorem dk.inv (x:dk R as bs) {b:β} {c:List β} (e:bs=b::c):dB λ a d=>as=a::d∧R a b∧dk R d c:=by
 induction x with
 | nil=>exact (agK _ _ e.symm).elim
 | cons h x _=>exact ⟨_,_,rfl,(Ib e).1▸h,(Ib e).2▸x⟩
theorem dk.one {b:β} (x:dk R as [b]):∃a,as=[a]∧R a b:=(x.inv rfl).elim λ a _ z=>⟨a,by rw [z.1,wi z.2.2.length],z.2.1⟩
theorem dk.two {b c:β} (x:dk R as [b,c]):dB λ a d=>as=[a,d]∧R a b∧R d c:=(x.inv rfl).elim λ a _ z=>z.2.2.one.elim λ d w=>⟨a,d,by rw [z.1,w.1],z.2.1,w.2⟩
theorem dk.mem (x:dk R as bs):∀a∈as,∃b∈bs,R a b:=λ a h=>
 (R5.mp h).elim λ _ e=>(x.get' e).elim λ b z=>⟨b,cY z.1,z.2⟩
end
inductive bt (G:aP->aE) (h:a3):aE->ai->Prop
 | none:bt G h .none .none
 | bool (b:Bool):bt G h (.bool b) (.bool b)
 | int (i:Int) (t:Tok):bt G h (.int i t) (.int i)
 | str (s:aW) (t:Tok):bt G h (.str s t) (.str s)
 | ref (a:ak):bt G h (.ref a) (.ref a)
 | fn (g:aP):bt G h (G g) (.fn g)
 | tup {a:ak} {o:dq} {items:Array aE} {n:Nat} {vs:List ai} (aH:h.get? a=some o) (aI:o.cls= .type "tuple"∧o.dict=none) (hd:o.data= .seq items n) (aF:dk (bt G h) items.toList vs):bt G h (.ref a) (.tup vs)
 | ic {a:ak} {lo ah:Int} {t u v:Tok} (aH:IsRange h a lo ah 1 t u v):bt G h (.ref a) (.ic lo ah)
abbrev dQ (G:aP->aE) (h:a3):=dk (bt G h)
def Still (o:dq):Prop:=(o.cls= .type "tuple"∧dB λ items n=>o.data= .seq items n)∨(o.cls= .type "range"∧∃vs,o.data= .fields vs)
def e0 (h h':a3):Prop:=∀a o,h.get? a=some o->Still o->h'.get? a=some o
theorem e0.refl (h:a3):e0 h h:=λ _ _ e _=>e
theorem e0.trans {h' b:a3} (x:e0 h h') (y:e0 h' b):e0 h b:=λ a o e s=>y a o (x a o e s) s
theorem e0.of_keep (k:∀a o,h.get? a=some o->h'.get? a=some o):e0 h h':=λ a o e _=>k a o e
theorem e0.push (h:a3) (o:dq):e0 h (h.push o):=λ _ _ e _=>dP o e
theorem e0.sameBut {d:ak} {o:dq} (b:h.get? d=some o) (c:¬Still o) (f:n9 d h h'):e0 h h':=λ a bw e st=>
 (f.2 a λ hd=>c (dA ((hd▸e).symm.trans b)▸st)).trans e
variable {G:aP->aE}
theorem bt.stays (k:e0 h h') {v:aE} {a:ai} (x:bt G h v a):bt G h' v a:=
 bt.rec (motive_1:=λ v a _=>bt G h' v a) (motive_2:=λ vs as _=>dk (bt G h') vs as) .none .bool .int .str .ref .fn
  (λ b aI hd _ c=> .tup (k _ _ b (.inl ⟨aI.1,_,_,hd⟩)) aI hd c) (λ b=> .ic (k _ _ b (.inr ⟨rfl,_,rfl⟩))) .nil (λ _ _=> .cons) x
theorem dk.stays {vs:cH} {as:List ai} (x:dk (bt G h) vs as) (k:e0 h h'):dk (bt G h') vs as:=x.imp λ _ _=>bt.stays k
inductive Shape | int | key
def qR:Nat->ai->Prop
 | 0,v=>∃i,v= .int i
 | n+1,v=>(∃i,v= .int i)∨∃l,v= .tup l∧∀x∈l,qR n x
def Shape.has:Shape->ai->Prop
 | .int,v=>∃i,v= .int i
 | .key,v=>∃l,v= .tup l∧∀x∈l,qR 7 x
mutual
noncomputable def kk:ai->Int
 | .int i=>CT i
 | .tup vs=>Ic (CU (DY vs))
 | _=>0
noncomputable def DY:List ai->List Int
 | []=>[]
 | a::r=>kk a::DY r
end
mutual
noncomputable def jZ:ai->Nat
 | .tup vs=>w4 vs+1
 | _=>1
noncomputable def w4:List ai->Nat
 | []=>0
 | a::r=>jZ a+w4 r
end
theorem TI (l:List ai):DY l=l.map kk:=by
 induction l with
 | nil=>rfl
 | cons a l ih=>exact congrArg (kk a:: ·) ih
theorem aiI (l:List ai) (a:ai):w4 (l++[a])=w4 l+jZ a:=by
 induction l with
 | nil=>exact Ie ..
 | cons b l ih=>exact (congrArg (jZ b+ ·) ih).trans (zq ..).symm
theorem dC {α:Type} {o:Option α} {x y:α} (h:o=some x) (h':o=some y):x=y:=dA (h.symm.trans h')
end
end Mine
end
section
open PySem PySem.W PyProof.Rows PySem.Calls PySem.SeqAt
namespace Mine
variable {v:aE} {a:ai} {h:a3}
open Classical
section
section
variable {G:aP->aE} {h:a3}
inductive JC (G:aP->aE) (h:a3) (v:aE) (vs:aV):Prop
 | mk (a:ak) (o:dq) (items:Array aE) (n:Nat) (e:v= .ref a) (aH:h.get? a=some o) (aI:o.cls= .type "tuple") (av:o.dict=none) (hd:o.data= .seq items n) (aF:dQ G h items.toList vs)
inductive TJ (h:a3) (v:aE) (lo ah:Int):Prop
 | mk (a:ak) (t u w:Tok) (e:v= .ref a) (r:IsRange h a lo ah 1 t u w)
def TK (G:aP->aE) (h:a3) (v:aE):ai->Prop
 | .none=>v= .none
 | .bool b=>v= .bool b
 | .int i=>∃t,v= .int i t
 | .str s=>∃t,v= .str s t
 | .tup vs=>JC G h v vs
 | .ref a=>v= .ref a
 | .fn g=>v=G g
 | .ic lo c=>TJ h v lo c
theorem bt.inv {v:aE} {a:ai} (x:bt G h v a):TK G h v a:=by
 cases x with
 | tup b aI hd c=>exact ⟨_,_,_,_,rfl,b,aI.1,aI.2,hd,c⟩
 | ic r=>exact ⟨_,_,_,_,rfl,r⟩
 | int | str=>exact ⟨_,rfl⟩
 | _=>rfl
theorem JD {vs:aV} (x:bt G h v (.tup vs)):JC G h v vs:=x.inv
theorem int_inv {i:Int} (x:bt G h v (.int i)):∃t,v= .int i t:=x.inv
theorem bool_inv {i:Bool} (x:bt G h v (.bool i)):v= .bool i:=x.inv
theorem none_inv (x:bt G h v .none):v= .none:=x.inv
theorem str_inv {i:aW} (x:bt G h v (.str i)):∃t,v= .str i t:=x.inv
theorem aiJ {a:ak} (x:bt G h v (.ref a)):v= .ref a:=x.inv
end
mutual
noncomputable def toPy:ai->PyData
 | .int i=> .int i
 | .str s=> .str s
 | .tup vs=> .tuple (toPys vs)
 | _=> .none
noncomputable def toPys:aV->List PyData
 | []=>[]
 | a::r=>toPy a::toPys r
end
inductive d1:Nat->ai->Prop
 | int {n i}:d1 n (.int i)
 | str {n s}:iQ s=true->d1 n (.str s)
 | none {n}:d1 n .none
 | tup {n l}:(∀x∈l,d1 n x)->d1 (n+1) (.tup l)
theorem readsAll {G:aP->aE} {vs:cH} {l:aV} (x:dk (bt G h) vs l) (ih:∀a∈l,∀v,bt G h v a->∃as,Reads h v (toPy a) as):∃as,ReadsAll h vs (toPys l) as:=by
 induction x with
 | nil=>exact ⟨_,.nil⟩
 | cons r x i=>exact (ih _ (.head _) _ r).elim λ as z=>(i λ a h=>ih a (.tail _ h)).elim λ bs b=>⟨_,.cons z b⟩
theorem d1.reads {n:Nat} (p:d1 n a):∀{G:aP->aE} {h:a3} (v:aE),bt G h v a->∃as,Reads h v (toPy a) as:=by
 induction p with
 | int=>exact λ v x=>x.inv.elim λ t e=>e▸⟨_,Reads.int _ _⟩
 | str=>exact λ v x=>x.inv.elim λ t e=>e▸⟨_,Reads.str _ _⟩
 | none=>exact λ v x=>(show v= .none from x.inv)▸⟨_,Reads.none⟩
 | tup _ ih=>
  intro G h v x;obtain ⟨a,o,f,m,rfl,b,aI,g,hd,c⟩:=x.inv;exact (readsAll c λ a d=>ih a d).elim λ as r=>⟨_,.tuple b aI hd r⟩
theorem uN {n:Nat} {l:aV} (ih:∀a∈l,(toPy a).canLay0=true∧(toPy a).depth<=n):PyData.canLayAll0 (toPys l)=true∧agL (toPys l)<=n:=by
 induction l with
 | nil=>exact ⟨rfl,dz _⟩
 | cons a l i=>
  have h:=ih a (.head _);have j:=i λ a h=>ih a (.tail _ h);exact ⟨d6.mpr ⟨h.1,j.1⟩,Nat.max_le.mpr ⟨h.2,j.2⟩⟩
theorem d1.lay {n:Nat} (p:d1 n a):(toPy a).canLay0=true∧(toPy a).depth<=n+1:=by
 induction p with
 | int | none=>exact ⟨rfl,dz _⟩
 | str h=>exact ⟨h,dz _⟩
 | tup _ ih=>exact ⟨(uN ih).1,ug (uN ih).2⟩
theorem d1.sh {n:Nat} (p:d1 n a) (h:n<=60):shaped (toPy a)=true:=d6.mpr ⟨p.lay.1,decide_eq_true (bB p.lay.2 (su (a9 h (by decide))))⟩
theorem JE {l:aV}:∀{m:aV},(∀a∈l,∀b∈m,(toPy a).eqv (toPy b)=true↔a=b)->(PyData.eqvAll (toPys l) (toPys m)=true↔l=m):=by
 induction l with
 | nil=>intro m _;cases m with
  | nil=>exact ⟨λ _=>rfl,λ _=>rfl⟩
  | cons=>exact ⟨λ e=>absurd e fS,λ e=>(by cases e)⟩
 | cons a l ih=>intro m h;cases m with
  | nil=>exact ⟨λ e=>absurd e fS,λ e=>(by cases e)⟩
  | cons b m=>exact d6.trans ((and_congr (h a (.head _) b (.head _)) (ih λ x c y d=>h x (.tail _ c) y (.tail _ d))).trans agM.symm)
theorem d1.eqv {n:Nat} (p:d1 n a):∀{m:Nat} {b:ai},d1 m b->((toPy a).eqv (toPy b)=true↔a=b):=by
 induction p with
 | int=>
  intro m b q
  induction q with
  | int=>exact beq_iff_eq.trans ⟨congrArg ai.int,λ e=>ai.int.inj e⟩
  | _=>exact ⟨λ e=>absurd e fS,λ e=>(by cases e)⟩
 | str=>
  intro m b q
  induction q with
  | str=>exact beq_iff_eq.trans ⟨congrArg ai.str,λ e=>ai.str.inj e⟩
  | _=>exact ⟨λ e=>absurd e fS,λ e=>(by cases e)⟩
 | none=>
  intro m b q
  induction q with
  | none=>exact ⟨λ _=>rfl,λ _=>rfl⟩
  | _=>exact ⟨λ e=>absurd e fS,λ e=>(by cases e)⟩
 | tup _ ih=>
  intro m b q
  induction q with
  | tup h=>exact (JE λ a c b d=>ih a c (h b d)).trans ⟨congrArg ai.tup,λ e=>ai.tup.inj e⟩
  | _=>exact ⟨λ e=>absurd e fS,λ e=>(by cases e)⟩
theorem uO {b:Bool} {p:Prop} {i:Decidable p} (h:b=true↔p):b=decide p:=by
 cases b with
 | true=>exact (decide_eq_true (h.mp rfl)).symm
 | false=>exact (decide_eq_false λ q=>absurd (h.mpr q) fS).symm
theorem qR.pure:∀{n:Nat} {a:ai},qR n a->d1 n a:=by
 intro n
 induction n with
 | zero=>exact λ k=>k.elim λ i e=>e▸.int
 | succ n ih=>exact λ k=>k.elim (λ k=>k.elim λ i e=>e▸.int) λ k=>k.elim λ l k=>k.1▸.tup λ x b=>ih (k.2 x b)
section
variable {G:aP->aE} {prog:gi} {w:fp} {A:c8} {E:cA} {s:a4}
theorem bt.DZ {vs:aV} (x:bt G s.heap v (.tup vs)):s.TypeIs v "tuple":=by
 obtain ⟨a,o,c,m,rfl,b,aI,_⟩:=x.inv;exact ⟨_,b,aI⟩
theorem TL {n:Nat} {x y:ai} (a:bt G h v x) (b:bt G h v y) (p:d1 n x) (q:d1 n y):x=y:=
 (p.reads v a).elim λ as r=>(q.reads v b).elim λ bs c=>(p.eqv q).mp ((congrArg (PyData.eqv _) (Reads.unique r _ _ c).1.symm).trans ((p.eqv p).mpr rfl))
theorem TM {n:Nat} {u:aE} {x y:ai} {Q:Bool->a4->Prop} (a:A.units+n+1<ee) (b:bt G s.heap u x) (c:bt G s.heap v y) (p:d1 n x) (q:d1 n y) (h:Q (decide (x=y)) s):aR (aX prog w) A (eqBool u v) Q E s:=
 (p.reads u b).elim λ as r=>(q.reads v c).elim λ bs d=>eqBoolOverData prog w A E s u v _ _ as bs Q r d p.lay.1 q.lay.1 (a9 (pl (bB (oa ..) p.lay.2) _) a) (uO (p.eqv q)▸h)
def D0 (prog:gi) (w:fp) (A:c8) (E:cA) (G:aP->aE) (h:a3) (k:ai):Prop:=
 ∀(s:a4) (u:aE) (Q:Int->a4->Prop),s.heap=h->bt G h u k->Q (kk k) {s with toks:=s.toks+jZ k}->aR (aX prog w) A (pyHash u) Q E s
theorem hashLoop {vs:cH} {l:aV} (x:dk (bt G h) vs l):(∀k∈l,D0 prog w A E G h k)->∀(b:Array Int) (s:a4) (Q:Array Int->a4->Prop),s.heap=h->
  (∀a,a.toList=b.toList++l.map kk->Q a {s with toks:=s.toks+w4 l})->aR (aX prog w) A (wj vs b λ x r=>do let h <- pyHash x;pure (CV (r.push h))) Q E s:=by
 induction x with
 | nil=>exact λ _ b s Q _ h=>bl (h b (h9 _).symm)
 | @cons v k vs l r x ih=>
  intro c b s Q e h;rw [R6];refine aG (aG (c _ (.head _) s _ _ e r (bl (ih (λ k ao=>c k (.tail _ ao)) _ _ Q e λ a d=> ?_))));rw [zq];exact h a (by rw [d,CW,jy];rfl)
theorem keyHash {n:Nat}:∀{A:c8} {E:cA} {h:a3} {k:ai},A.units+n<ee->qR n k->D0 prog w A E G h k:=by
 induction n with
 | zero=>
  rintro A E h k c ⟨i,rfl⟩ s u Q e x q;exact x.inv.elim λ t z=>z▸wpAny_pyHash_int q
 | succ n ih=>
  rintro A E h k c (⟨i,rfl⟩ | ⟨l,rfl,d⟩) s u Q rfl x q
  ·exact x.inv.elim λ t z=>z▸wpAny_pyHash_int q
  ·obtain ⟨a,o,j,m,rfl,f,aI,p,hd,g⟩:=x.inv;refine pyHash_slot x.DZ agN PySem.F.entry_tuple_hash (PySem.F.args_tuple_hash_1 _) (beq_builtin_none _) (.inr (a9 (fJ ..) c)) ?_;show aR _ _ (Builtin.Tuple.tupleItemsOf (.ref a)>>=_) _ _ s;refine aG (wpAny_tupleItemsOf f hd (aG ?_));rw [<- R7];refine hashLoop g (λ k ao=>ih (by rw [Around.in1_units];exact bD (.l (.s (.a .p (.s .q))) (.k 9900)<| .g (.s (.a (.s .p) .q)) (.k 9900)) rfl c) (d k ao)) #[] s _ rfl λ b e=> ?_
   show aR _ _ (retInt (CU b.toList)) _ _ _;rw [e,agO,<- TI];exact aG (wpAny_mkInt (bl ⟨_,_,rfl,q⟩))
theorem TN {n:Nat}:∀{u:aE} {x:ai} {Q:Bool->a4->Prop},bt G s.heap u x->qR n x->Q true s->aR (aX prog w) A (eqIsQuiet n u) Q E s:=by
 induction n with
 | zero=>
  rintro u k Q x ⟨i,rfl⟩ q;exact x.inv.elim λ t z=>z▸agP 0 (v:= .int i t) rfl▸bl q
 | succ n ih=>
  rintro u k Q x (⟨i,rfl⟩ | ⟨l,rfl,b⟩) q
  ·exact x.inv.elim λ t z=>z▸agP (n+1) (v:= .int i t) rfl▸bl q
  ·have c:=x.DZ;obtain ⟨a,o,e,m,rfl,f,aI,y,hd,g⟩:=x.inv;unfold eqIsQuiet;refine aG (Ig c PySem.F.slot_tuple_eq.lookup ?_);show aR _ _ (Ih (.ref a) (.type "tuple")>>=_) _ _ s;refine aG (wpAny_isInstance c isSubtype_tuple_tuple ?_);refine aG (wpAny_seqItems f hd (aG ?_));show aR _ _ (wj e _ _) _ _ s;rw [<- R7];refine wpAny_forIn_list _ (λ rest r s'=>(r.1=none∧s'=s)∧∃left,dQ G s.heap rest left∧∀x∈left,qR n x) _ ?_ ?_ _ _ ⟨⟨rfl,rfl⟩,l,g,b⟩
   ·rintro v rest r s' ⟨⟨_,rfl⟩,left,b,d⟩;cases b with
    | cons J h=>exact aG (ih J (d _ (.head _)) (bl ⟨⟨rfl,rfl⟩,_,h,λ u j=>d u (.tail _ j)⟩))
   ·rintro ⟨B,C⟩ s' ⟨⟨p,rfl⟩,_⟩;cases p;exact bl q
end
theorem sN {k:ai} (h:Shape.key.has k):qR 8 k:= .inr h
noncomputable def JG (G:aP->aE) (prog:gi) (w:fp):HeapKind prog w ai where
 is:=λ h k a=>bt G h (.ref a) k∧Shape.key.has k
 hash:=kk
 draws:=jZ
 room:=λ A=>A.units+9<ee
 inj:=λ b c=>TL b.1 c.1 (sN b.2).pure (sN c.2).pure
 keeps:=λ x f hd g=>⟨x.1.stays (e0.sameBut f (λ e=>e.elim (λ e=>e.2.elim λ _ _ e=>e4 (hd.symm.trans e)) λ e=>e.2.elim λ _ e=>e4 (hd.symm.trans e)) g),x.2⟩
 pyHash:=λ d ao h=>keyHash (ob d) (sN ao.2) _ _ _ rfl ao.1 h
 eqBool:=λ d b c h=>TM d b.1 c.1 (sN b.2).pure (sN c.2).pure h
 quiet:=λ ao h=>TN ao.1 (sN ao.2) h
end
end Mine
end
section
open PySem PySem.W PyProof.Rows PySem.Calls
namespace Mine
variable {G:aP->aE} {h h':a3} {bw o:c5} {ov:bp->Option ai} {bg:ai}
open Classical
section
abbrev bp:=Fin 34
noncomputable abbrev bp.aiK:bp:=0
noncomputable abbrev bp.at_:bp:=1
noncomputable abbrev bp.number:bp:=2
noncomputable abbrev bp.kernel:bp:=3
noncomputable abbrev bp.core:bp:=4
noncomputable abbrev bp.symbol:bp:=5
noncomputable abbrev bp.items:bp:=6
noncomputable abbrev bp.moves:bp:=7
noncomputable abbrev bp.JH:bp:=8
noncomputable abbrev bp.bP:bp:=9
noncomputable abbrev bp.D1:bp:=10
noncomputable abbrev bp.sO:bp:=11
noncomputable abbrev bp.most:bp:=12
noncomputable abbrev bp.D2:bp:=13
noncomputable abbrev bp.D3:bp:=14
noncomputable abbrev bp.D4:bp:=15
noncomputable abbrev bp.waiting:bp:=16
noncomputable abbrev bp.D5:bp:=17
noncomputable abbrev bp.left:bp:=18
noncomputable abbrev bp.right:bp:=19
noncomputable abbrev bp.aiL:bp:=20
noncomputable abbrev bp.action:bp:=21
noncomputable abbrev bp.line:bp:=22
noncomputable abbrev bp.before:bp:=23
noncomputable abbrev bp.names:bp:=24
noncomputable abbrev bp.JI:bp:=25
noncomputable abbrev bp.rules:bp:=26
noncomputable abbrev bp.levels:bp:=27
noncomputable abbrev bp.expect:bp:=28
noncomputable abbrev bp.start:bp:=29
noncomputable abbrev bp.JJ:bp:=30
noncomputable abbrev bp.JK:bp:=31
noncomputable abbrev bp.owners:bp:=32
noncomputable abbrev bp.aiM:bp:=33
noncomputable def bp.Ak:bZ:=["what","at","number","kernel","core","symbol","items","moves","reductions","masks","grammar","states","most","nullables","firsts","homes","waiting","is_waiting","left","right","level_of","action","line","before","names","terminal_count","rules","levels","expect","start","by_left","offsets","owners","item_count"].map bj
noncomputable def bp.str (f:bp):aW:=bp.Ak.getD f.val ""
theorem bp.str_inj {f g:bp} (h:f.str=g.str):f=g:=(by decide+kernel:∀f g:Fin 34,bp.str f=bp.str g->f=g) f g h
theorem bp.JL (f:bp):f.str∈bp.Ak:=(by decide+kernel:∀f:Fin 34,bp.str f∈bp.Ak) f
inductive c5
 | list (xs:aV) | gG (xs:aV) | dict (sh:Shape) (es:List (ai×ai)) | inst (C:aP) (fs:bp->Option ai) | kX (n:Nat)
def c5.mut:c5->Prop
 | .gG _=>False
 | _=>True
abbrev ag:=ak->Option c5
noncomputable def ag.upd (H:ag) (a:ak) (o:c5):ag:=λ b=>if b=a then some o else H b
theorem ag.fL (H:ag) (a:ak) (o:c5):H.upd a o a=some o:=if_pos rfl
theorem ag.er (H:ag) {a b:ak} (o:c5) (h:b≠a):H.upd a o b=H b:=if_neg h
theorem ag.aiN (H:ag) (a:ak) (o bw:c5):(H.upd a o).upd a bw=H.upd a bw:=funext λ b=>by
 unfold ag.upd;split<;>rfl
structure a0 where
 prog:gi
 w:fp
 G:aP->aE
 gl:ak
 h0:a3
 os:oc
 K:dt
noncomputable abbrev TO (G:aP->aE) (h:a3) (e:lH) (p:ai×ai):Prop:=gR (e.hash=kk p.1) (bt G h e.key p.1) (bt G h e.val p.2)
abbrev kY (G:aP->aE) (h:a3):=dk (TO G h)
theorem kY.stays (k:e0 h h') {es:List lH} {kvs:List (ai×ai)} (x:kY G h es kvs):kY G h' es kvs:=x.imp λ _ _ z=>⟨z.1,z.2.stays k,z.3.stays k⟩
noncomputable abbrev sP (G:aP->aE) (h:a3) (a:ak) (sh:Shape) (es:List (ai×ai)) (ents:Array lH) (n:Nat):Prop:=eT (h.get? a=some {cls:= .type "dict",data:= .dict ents n}) (kY G h ents.toList es) (∀e∈es,sh.has e.1) ((es.map (·.1)).Nodup) (n=es.length) (a≠zr)
inductive iW (G:aP->aE) (h:a3) (a:ak) (sh:Shape) (es:List (ai×ai)):Prop
 | mk (ents:Array lH) (n:Nat) (x:sP G h a sh es ents n)
def sQ (G:aP->aE) (h:a3) (m:aW->Option aE) (fs:bp->Option ai):Prop:=
 (∀f bg,fs f=some bg->∃v,m f.str=some v∧bt G h v bg)∧(∀x v,m x=some v->∃f,f.str=x∧(fs f).isSome)
def TP (o:dq):Prop:=zt o=true∧∀vs,o.data≠ .fields vs
inductive iB (G:aP->aE) (h:a3) (a:ak) (C:aP) (fs:bp->Option ai) (d:ak):Prop
 | mk (dT d7:dq) (m:aW->Option aE) (J:h.get? a=some dT) (af:dT.cls=G C) (aM:∃c,G C= .ref c) (cb:TP dT) (d8:dT.dict=some d) (gS:h.get? d=some d7) (hD:dB λ es n=>d7.data= .dict es n) (qS:h.Ns1 d m) (D6:sQ G h m fs)
inductive gT (G:aP->aE) (h:a3) (a:ak) (xs:aV):Prop
 | mk (items:Array aE) (n:Nat) (aH:h.get? a=some {cls:= .type "list",data:= .seq items n}) (aF:dQ G h items.toList xs)
inductive TQ (G:aP->aE) (h:a3) (a:ak) (xs:aV):Prop
 | mk (items:Array aE) (aH:h.IsList a items) (aF:dQ G h items.toList xs)
inductive TR (W:a0) (H:ag) (h:a3) (a:ak) (C:aP) (fs:bp->Option ai):Prop
 | mk (d:ak) (ah:iB W.G h a C fs d) (av:H d=none) (h0:W.h0.get? d=none)
inductive TS (h:a3) (a:ak) (n:Nat):Prop
 | mk (es:Array (Int×aE)) (ep:Nat) (t:jb) (aH:h.get? a=some {cls:= .type "set",data:= .set es ep t}) (J:es.size=n) (af:t.place.size=n) (aM:t.fill<=t.mask)
def gH (W:a0) (H:ag) (h:a3) (a:ak):c5->Prop
 | .list xs=>gT W.G h a xs
 | .gG xs=>TQ W.G h a xs
 | .dict sh es=>iW W.G h a sh es
 | .inst C fs=>TR W H h a C fs
 | .kX n=>TS h a n
inductive hE (H:ag) (h:a3) (x b:ak):Prop
 | mk (C:aP) (fs:bp->Option ai) (dT:dq) (aY:H x=some (.inst C fs)) (a5:h.get? x=some dT) (cB:dT.dict=some b)
inductive d2 (H:ag) (h:a3) (a:ak):Prop
 | o (o:c5) (e:H a=some o) (m:o.mut)
 | d (x:ak) (q:hE H h x a)
noncomputable abbrev bW (W:a0) (H:ag) (h:a3):Prop:=iV (∀a o,H a=some o->gH W H h a o) (∀b o,W.h0.get? b=some o->h.get? b=some o) (∀a o,H a=some o->o.mut->W.h0.get? a=none) (∀x y d,hE H h x d->hE H h y d->x=y)
inductive qT (W:a0) (a:ak) (o:dq) (h':a3):Prop
 | s (e:h'.get? a=some o)
 | f (c:dB λ es n=>o.data= .dict es n) (z:W.h0.get? a=none) (cZ:Array (Option aE)) (e:h'.get? a=some {o with slots:=cZ})
noncomputable abbrev bh (W:a0) (P:ak->Prop) (H:ag) (h:a3) (aa:ag) (h':a3):Prop:=iV (∀a o,h.get? a=some o->¬d2 H h a->¬P a->qT W a o h') (∀a,¬P a->d2 aa h' a->d2 H h a∨h.get? a=none) (∀a,¬P a->h'.get? a=none->h.get? a=none) (∀a xs,aa a=some (.gG xs)->H a=some (.gG xs))
def cT:ak->Prop:=λ _=>False
theorem Still.uR {o:dq} (s:Still o) {es:Array lH} {n:Nat} (h:o.data= .dict es n):False:=
 s.elim (λ e=>e.2.elim λ _ _ e=>e4 (h.symm.trans e)) λ e=>e.2.elim λ _ e=>e4 (h.symm.trans e)
theorem Still.TT {o:dq} (s:Still o) (h:∀i n,o.data≠ .seq i n) (h':∀v,o.data≠ .fields v):False:=
 s.elim (λ e=>e.2.elim λ _ _ e=>h _ _ e) λ e=>e.2.elim λ _ e=>h' _ e
theorem Still.cls {o:dq} (s:Still o) {v:aE} (h:o.cls=v) (J:v≠ .type "tuple") (a:v≠ .type "range"):False:=s.elim (λ e=>J (h.symm.trans e.1)) λ e=>a (h.symm.trans e.1)
section
variable {W:a0} {H aa:ag} {h h':a3}
theorem gH.obj {a:ak} (c:gH W H h a o):∃bT,h.get? a=some bT∧¬Still bT:=by
 cases o with
 | list xs=>obtain ⟨i,n,e,_⟩:=c;exact ⟨_,e,λ s=>s.cls (v:= .type "list") rfl (by decide) (by decide)⟩
 | gG xs=>obtain ⟨i,⟨o,e,b,_⟩,_⟩:=c;exact ⟨_,e,λ s=>s.cls b (by decide) (by decide)⟩
 | dict sh es=>obtain ⟨i,n,e,_⟩:=c;exact ⟨_,e,λ s=>s.uR rfl⟩
 | inst C fs=>obtain ⟨d,⟨dT,g,m,e,b,⟨c,f⟩,_⟩,_⟩:=c;exact ⟨_,e,λ s=>s.cls (b.trans f) (λ q=>(by cases q)) λ q=>(by cases q)⟩
 | kX n=>obtain ⟨es,ep,t,e,_⟩:=c;exact ⟨_,e,λ s=>s.cls (v:= .type "set") rfl (by decide) (by decide)⟩
theorem bW.here (S:bW W H h) {a:ak} (e:H a=some o):∃bT,h.get? a=some bT∧¬Still bT:=(S.1 a o e).obj
theorem bW.none_of (S:bW W H h) {a:ak} (e:h.get? a=none):H a=none:=kO.mpr λ _ q=>(S.here q).elim λ _ z=>no (e.symm.trans z.1)
theorem gA (h:a3):h.get? h.objs.size=none:=kO.mpr λ _ q=>iP _ (iu q)
theorem bW.Al (S:bW W H h):H h.objs.size=none:=S.none_of (gA h)
theorem bW.oo (S:bW W H h) {a:ak} (e:h.get? a=none):W.h0.get? a=none:=kO.mpr λ _ q=>no (e.symm.trans (S.2 _ _ q))
inductive D7 (W:a0) (H:ag) (h:a3) (x d:ak):Prop
 | mk (C:aP) (fs:bp->Option ai) (e:H x=some (.inst C fs)) (i:iB W.G h x C fs d) (n:H d=none) (z:W.h0.get? d=none)
theorem bW.own (S:bW W H h) {x d:ak} (q:hE H h x d):D7 W H h x d:=by
 obtain ⟨C,fs,dT,a,b,c⟩:=q;obtain ⟨f,I,g,h0⟩:=S.1 _ _ a;have e:f=d:=by obtain ⟨_,_,_,i,_,_,_,j,_⟩:=I;exact dA (j.symm.trans (dC i b▸c))
 exact e▸⟨C,fs,a,I,g,h0⟩
theorem D7.obj {x d:ak} (q:D7 W H h x d):∃a,h.get? d=some a∧¬Still a:=by
 obtain ⟨C,fs,e,⟨_,a,_,_,_,_,_,_,b,⟨_,_,c⟩,_⟩,n,z⟩:=q;exact ⟨a,b,λ s=>s.uR c⟩
theorem iB.JM {a d:ak} {C:aP} {fs:bp->Option ai} (I:iB W.G h a C fs d) (e:H a=some (.inst C fs)):hE H h a d:=by
 obtain ⟨_,_,_,b,_,_,_,c,_⟩:=I;exact ⟨C,fs,_,e,b,c⟩
theorem iB.Am {a d b:ak} {C D:aP} {fs:bp->Option ai} (I:iB W.G h a C fs d) (q:hE H h a b):b=d:=by
 obtain ⟨_,_,_,c,_,_,_,e,_⟩:=I;obtain ⟨_,_,_,_,f,g⟩:=q;exact dA ((dC c f▸g).symm.trans e)
theorem bW.qU (S:bW W H h) {a:ak} (m:d2 H h a):∃bT,h.get? a=some bT∧¬Still bT∧W.h0.get? a=none:=by
 cases m with
 | o o e b=>exact (S.here e).elim λ bT z=>⟨bT,z.1,z.2,S.3 a o e b⟩
 | d x q=>exact (S.own q).obj.elim λ c z=>⟨c,z.1,z.2,(S.own q).casesOn λ _ _ _ _ _ z=>z⟩
theorem bh.refl (W:a0) (P:ak->Prop) (H:ag) (h:a3):bh W P H h H h:=⟨λ _ _ e _ _=> .s e,λ _ _ m=> .inl m,λ _ _ e=>e,λ _ _ e=>e⟩
theorem bh.weak {P P':ak->Prop} (k:bh W P H h aa h') (b:∀a,P a->P' a):bh W P' H h aa h':=⟨λ a o e m p=>k.1 a o e m λ q=>p (b a q),λ a p=>k.2 a λ q=>p (b a q),λ a p=>k.3 a λ q=>p (b a q),k.4⟩
theorem bh.gI {P:ak->Prop} (k:bh W cT H h aa h'):bh W P H h aa h':=k.weak λ _ q=>q.elim
theorem qT.trans {a:ak} {o:dq} {h' d:a3} (x:qT W a o h') (k:∀bw,h'.get? a=some bw->qT W a bw d):qT W a o d:=by
 cases x with
 | s e=>exact k _ e
 | f c z cZ e=>cases k _ e with
  | s b=>exact .f c z cZ b
  | f h i g b=>exact .f c z g b
theorem bh.trans {P:ak->Prop} {c:ag} {d:a3} (k:bh W P H h aa h') (b:bh W P aa h' c d):bh W P H h c d:=
 ⟨λ a o e m p=>(k.1 a o e m p).trans λ bw f=>b.1 a bw f (λ g=>(k.2 a p g).elim m λ q=>no (q.symm.trans e)) p,
  λ a p m=>(b.2 a p m).elim (k.2 a p) λ q=> .inr (k.3 a p q),λ a p e=>k.3 a p (b.3 a p e),λ a xs e=>k.4 a xs (b.4 a xs e)⟩
theorem bh.qW {P P':ak->Prop} (k:bh W P' H h aa h') (b:∀a,P' a->P a∨h.get? a=none):bh W P H h aa h':=
 ⟨λ a o e m p=>k.1 a o e m λ q=>(b a q).elim p λ n=>no (n.symm.trans e),
  λ a p m=>(em (P' a)).elim (λ q=>(b a q).elim (λ n=>(p n).elim) .inr) λ q=>k.2 a q m,
  λ a p e=>(em (P' a)).elim (λ q=>(b a q).elim (λ n=>(p n).elim) id) λ q=>k.3 a q e,k.4⟩
theorem bh.drop {P:ak->Prop} (k:bh W P H h aa h') (b:∀a,P a->h.get? a=none):bh W cT H h aa h':=k.qW λ a p=> .inr (b a p)
theorem bh.stays {P:ak->Prop} (S:bW W H h) (k:bh W P H h aa h') (b:∀a o,P a->h.get? a=some o->¬Still o):e0 h h':=λ a o e st=>by
 cases k.1 a o e (λ m=>(S.qU m).elim λ bT z=>z.2.1 (dC e z.1▸st)) (λ q=>b a o q e st) with
 | s q=>exact q
 | f c=>exact c.elim λ _ _ c=>(st.uR c).elim
theorem bh.kZ (S:bW W H h) (k:bh W cT H h aa h'):e0 h h':=k.stays S λ _ _ q=>q.elim
theorem bh.base {P:ak->Prop} (S:bW W H h) (k:bh W P H h aa h') (c:∀a,P a->W.h0.get? a=none):∀b o,W.h0.get? b=some o->h'.get? b=some o:=λ b o e=>by
 cases k.1 b o (S.2 b o e) (λ m=>(S.qU m).elim λ bT z=>no (z.2.2.symm.trans e)) (λ q=>no ((c b q).symm.trans e)) with
 | s q=>exact q
 | f _ z=>exact no (z.symm.trans e)
theorem sQ.stays (k:e0 h h') {m:aW->Option aE} {fs:bp->Option ai} (x:sQ G h m fs):sQ G h' m fs:=
 ⟨λ f bg e=>(x.1 f bg e).elim λ v z=>⟨v,z.1,z.2.stays k⟩,x.2⟩
theorem iB.move {a d:ak} {C:aP} {fs:bp->Option ai} (I:iB G h a C fs d) (st:e0 h h') (b:∀o,h.get? a=some o->h'.get? a=some o) (hd:∀o,h.get? d=some o->h'.get? d=some o):iB G h' a C fs d:=by
 obtain ⟨dT,c,m,e,f,g,i,j,k,l,n,p⟩:=I;exact ⟨dT,c,m,b _ e,f,g,i,j,hd _ k,l,n.at hd,p.stays st⟩
theorem gH.move {a:ak} (c:gH W H h a o) (st:e0 h h') (b:∀bT,h.get? a=some bT->h'.get? a=some bT)
  (hd:∀C fs d,o= .inst C fs->iB W.G h a C fs d->(∀bT,h.get? d=some bT->h'.get? d=some bT)∧(H d=none->aa d=none)):gH W aa h' a o:=by
 cases o with
 | list xs=>obtain ⟨i,n,e,r⟩:=c;exact ⟨i,n,b _ e,r.stays st⟩
 | gG xs=>obtain ⟨i,⟨o,e,r⟩,q⟩:=c;exact ⟨i,⟨o,b _ e,r⟩,q.stays st⟩
 | dict sh es=>obtain ⟨i,n,e,r,f,g,j,k⟩:=c;exact ⟨i,n,b _ e,kY.stays st r,f,g,j,k⟩
 | kX n=>obtain ⟨es,ep,t,e,f,g,j⟩:=c;exact ⟨es,ep,t,b _ e,f,g,j⟩
 | inst C fs=>
  obtain ⟨d,I,l,h0⟩:=c;have q:=hd _ _ _ rfl I;exact ⟨d,I.move st b q.1,q.2 l,h0⟩
noncomputable abbrev eB (W:a0) (T D:ak->Prop) (H:ag) (h:a3) (aa:ag) (h':a3):Prop:=eT (∀b,¬T b->aa b=H b) (∀b o,¬D b->h.get? b=some o->h'.get? b=some o) (∀b x,T b->¬T x->¬hE H h x b) (∀b o,D b->h.get? b=some o->¬Still o) (∀b,D b->W.h0.get? b=none) (jC (∀b,D b->¬T b->H b=none) (∀b x,D b->¬T x->¬hE H h x b) (∀b o,T b->aa b=some o->gH W aa h' b o∧(o.mut->W.h0.get? b=none)) (∀x y,T x->T y->x=y) (∀x y d,T x->¬T y->hE aa h' x d->¬hE H h y d))
variable {T D:ak->Prop}
theorem eB.stays (x:eB W T D H h aa h'):e0 h h':=λ b o e s=>x.2 b o (λ d=>x.4 b o d e s) e
theorem eB.own (x:eB W T D H h aa h') (S:bW W H h) {b y:ak} (n:¬T y) (q:hE aa h' y b):hE H h y b:=by
 obtain ⟨C,fs,dT,a,e,f⟩:=q;have a:=(x.1 y n).symm.trans a;exact (S.here a).elim λ c z=>⟨C,fs,c,a,z.1,dC e (x.2 y c (λ d=>no ((x.6.1 y d n).symm.trans a)) z.1)▸f⟩
theorem eB.sim (x:eB W T D H h aa h') (S:bW W H h):bW W aa h':=by
 refine ⟨λ b o e=> ?_,λ b o e=>x.2 b o (λ d=>no ((x.5 b d).symm.trans e)) (S.2 b o e),λ b o e m=> ?_,λ y a d q c=> ?_⟩
 ·by_cases t:T b
  ·exact (x.6.3 b o t e).1
  ·have e:=(x.1 b t).symm.trans e;refine (S.1 b o e).move x.stays (λ bT=>x.2 b bT λ d=>no ((x.6.1 b d t).symm.trans e)) λ C fs d f I=> ?_;have q:=I.JM (f▸e);exact ⟨λ bT=>x.2 d bT λ dd=>x.6.2 d b dd t q,λ n=>(x.1 d λ g=>x.3 d b g t q).trans n⟩
 ·by_cases t:T b
  ·exact (x.6.3 b o t e).2 m
  ·exact S.3 b o ((x.1 b t).symm.trans e) m
 ·by_cases t:T y
  ·by_cases t':T a
   ·exact x.6.4 _ _ t t'
   ·exact (x.6.5 y a d t t' q (x.own S t' c)).elim
  ·by_cases t':T a
   ·exact (x.6.5 a y d t' t c (x.own S t q)).elim
   ·exact S.4 _ _ d (x.own S t q) (x.own S t' c)
theorem eB.keep (x:eB W T D H h aa h') (S:bW W H h) {P:ak->Prop} (a:∀b,D b->d2 H h b∨P b) (c:∀b,T b->d2 H h b∨h.get? b=none) (f:∀y b,T y->hE aa h' y b->d2 H h b∨h.get? b=none)
  (al:∀b,D b->P b∨h'.get? b≠none) (g:∀b xs,T b->aa b≠some (.gG xs)):bh W P H h aa h':=by
 refine ⟨λ b o e m p=> .s (x.2 b o (λ d=>(a b d).elim m p) e),λ b _ m=> ?_,λ b p e=>kO.mpr λ o q=> ?_,λ b xs e=>(em (T b)).elim (λ t=>(g b xs t e).elim) λ t=>(x.1 b t).symm.trans e⟩
 ·cases m with
  | o o e m=>exact (em (T b)).elim (c b) λ t=> .inl (.o o ((x.1 b t).symm.trans e) m)
  | d y q=>exact (em (T y)).elim (λ t=>f y b t q) λ t=> .inl (.d y (x.own S t q))
 ·exact no (e.symm.trans (x.2 b o (λ d=>(al b d).elim p λ n=>n e) q))
theorem cT.not {a:ak}:¬cT a:=id
theorem eB.off (hd:∀b o,D b->h.get? b=some o->¬Still o) (z:∀b,D b->W.h0.get? b=none) (nm:∀b,D b->¬d2 H h b) (a:∀b,D b->H b=none) (k:∀b o,¬D b->h.get? b=some o->h'.get? b=some o):eB W cT D H h H h':=
 ⟨λ _ _=>rfl,k,λ _ _ t=>t.elim,hd,z,λ b d _=>a b d,λ b x d _ q=>nm b d (.d x q),λ _ _ t=>t.elim,λ _ _ t=>t.elim,λ _ _ _ t=>t.elim⟩
theorem eB.grow (k:∀a o,h.get? a=some o->h'.get? a=some o):eB W cT cT H h H h':= .off (λ _ _ d=>d.elim) (λ _ d=>d.elim) (λ _ d=>d.elim) (λ _ d=>d.elim) λ b o _=>k b o
theorem bW.grow (S:bW W H h) (k:∀a o,h.get? a=some o->h'.get? a=some o):bW W H h':=(eB.grow k).sim S
theorem bh.grows (S:bW W H h) (P:ak->Prop) (k:∀a o,h.get? a=some o->h'.get? a=some o):bh W P H h H h':=(eB.grow k).keep S (λ _ d=>d.elim) (λ _ d=>d.elim) (λ _ _ d=>d.elim) (λ _ d=>d.elim) λ _ _ d=>d.elim
theorem d2.grow (S:bW W H h) (k:∀a o,h.get? a=some o->h'.get? a=some o) {a:ak} (m:d2 H h' a):d2 H h a:=by
 cases m with
 | o o e m=>exact .o o e m
 | d x q=>exact .d x ((eB.grow (W:=W) (H:=H) k).own S cT.not q)
theorem bW.push (S:bW W H h) (o:dq):bW W H (h.push o):=S.grow λ _ _ e=>dP o e
theorem bh.push (S:bW W H h) (P:ak->Prop) (o:dq):bh W P H h H (h.push o):=bh.grows S P λ _ _ e=>dP o e
theorem eB.set {a:ak} (z:W.h0.get? a=none) (k:∀b bT,¬D b->h.get? b=some bT->h'.get? b=some bT) (f:∀x,x≠a->¬hE H h x a) (st:∀b o,D b->h.get? b=some o->¬Still o) (g:∀b,D b->W.h0.get? b=none)
  (i:∀b,D b->b≠a->H b=none) (j:∀b x,D b->x≠a->¬hE H h x b) (c:gH W (H.upd a o) h' a o) (l:∀y d,y≠a->hE (H.upd a o) h' a d->¬hE H h y d):eB W (· =a) D H h (H.upd a o) h':=
 ⟨λ _ n=>ag.er _ _ n,k,λ b x t n=>t▸f x n,st,g,i,j,λ b bT t e=>by
  exact (dA ((ag.fL H a o).symm.trans (t▸e)):o=bT)▸(Eq.symm t)▸(⟨c,λ _=>z⟩:gH W (H.upd a o) h' a o∧(o.mut->W.h0.get? a=none)),λ _ _ e m=>e.trans m.symm,λ x y d t n q=>l y d n (t▸q)⟩
theorem uS {a d:ak} (b:∀C fs,o≠ .inst C fs):¬hE (H.upd a o) h' a d:=λ z=>by obtain ⟨C,fs,_,e,_,_⟩:=z;exact b C fs (dA ((ag.fL H a o).symm.trans e))
theorem eB.mr (S:bW W H h) {a:ak} (f:h.get? a=none) (k:∀a o,h.get? a=some o->h'.get? a=some o) (g:∀C fs,o≠ .inst C fs) (c:gH W (H.upd a o) h' a o):eB W (· =a) cT H h (H.upd a o) h':=
 .set (S.oo f) (λ b o _=>k b o) (λ x _ q=>(S.own q).obj.elim λ _ e=>no (f.symm.trans e.1)) (λ _ _ d=>d.elim) (λ _ d=>d.elim) (λ _ d=>d.elim) (λ _ _ d=>d.elim) c λ _ _ _ q=>(uS g q).elim
theorem bW.mr (S:bW W H h) {a:ak} (b:h.get? a=none) (k:∀a o,h.get? a=some o->h'.get? a=some o) (d:∀C fs,o≠ .inst C fs) (c:gH W (H.upd a o) h' a o):bW W (H.upd a o) h':=(eB.mr S b k d c).sim S
theorem eB.JO {a:ak} (x:eB W (· =a) cT H h (H.upd a o) h') (S:bW W H h) (P:ak->Prop) (c:h.get? a=none) (f:∀b,hE (H.upd a o) h' a b->h.get? b=none) (g:∀xs,o≠ .gG xs):bh W P H h (H.upd a o) h':=
 x.keep S (λ _ d=>d.elim) (λ b t=> .inr (t▸c)) (λ y b t q=> .inr (f b (t▸q))) (λ _ d=>d.elim) λ b xs t e=>g xs (dA ((ag.fL H a o).symm.trans (t▸e)))
theorem bh.mr (S:bW W H h) (P:ak->Prop) {a:ak} (b:h.get? a=none) (k:∀a o,h.get? a=some o->h'.get? a=some o) (d:∀C fs,o≠ .inst C fs) (c:gH W (H.upd a o) h' a o) (e:∀xs,o≠ .gG xs:=by intro _ q;cases q):bh W P H h (H.upd a o) h':=
 (eB.mr S b k d c).JO S P b (λ _ q=>(uS d q).elim) e
theorem d2.Ap (S:bW W H h) {a:ak} (e:H a=some o) {x:ak}:¬hE H h x a:=λ q=>by
 obtain ⟨_,_,_,_,n,_⟩:=S.own q;exact no (n.symm.trans e)
theorem eB.write (S:bW W H h) {a:ak} (e:H a=some o) (d:o.mut) (f:n9 a h h') (g:∀C fs,bw≠ .inst C fs) (c:gH W (H.upd a bw) h' a bw):eB W (· =a) (· =a) H h (H.upd a bw) h':=
 .set (S.3 _ _ e d) (λ b bT n q=>(f.2 b n).trans q) (λ x _=>d2.Ap S e) (λ b bT t q=>(S.here e).elim λ _ z=>dC z.1 (t▸q)▸z.2) (λ b t=>t▸S.3 _ _ e d) (λ b t n=>(n t).elim) (λ b x t _=>t▸d2.Ap S e) c λ _ _ _ q=>(uS g q).elim
theorem bW.write (S:bW W H h) {a:ak} (e:H a=some o) (b:o.mut) (d:n9 a h h') (f:∀C fs,bw≠ .inst C fs) (c:gH W (H.upd a bw) h' a bw):bW W (H.upd a bw) h':=(eB.write S e b d f c).sim S
theorem bh.write (S:bW W H h) (P:ak->Prop) {a:ak} (e:H a=some o) (d:o.mut) (g:n9 a h h') (f:∀C fs,bw≠ .inst C fs) (c:gH W (H.upd a bw) h' a bw) (i:∀xs,bw≠ .gG xs:=by intro _ q;cases q):bh W P H h (H.upd a bw) h':=
 (eB.write S e d g f c).keep S (λ b t=> .inl (t▸.o o e d)) (λ b t=> .inl (t▸.o o e d)) (λ y b t q=>(uS f (t▸q)).elim) (λ b t=> .inr λ q=>c.obj.elim λ _ z=>no (q.symm.trans (t▸z.1))) λ b xs t q=>i xs (dA ((ag.fL H a bw).symm.trans (t▸q)))
theorem eB.uT (S:bW W H h) {a d:ak} {C:aP} {fs:bp->Option ai} (f:h.get? a=none) (hd:h.get? d=none) (g:d≠a) (k:∀a o,h.get? a=some o->h'.get? a=some o) (c:iB W.G h' a C fs d):eB W (· =a) cT H h (H.upd a (.inst C fs)) h':=
 .set (S.oo f) (λ b o _=>k b o) (λ x _ q=>(S.own q).obj.elim λ _ e=>no (f.symm.trans e.1)) (λ _ _ d=>d.elim) (λ _ d=>d.elim) (λ _ d=>d.elim) (λ _ _ d=>d.elim) ⟨d,c,(ag.er _ _ g).trans (S.none_of hd),S.oo hd⟩
  λ y b _ q i=>(S.own i).obj.elim λ _ e=>no (((c.Am (D:=C) q)▸hd).symm.trans e.1)
theorem bW.uT (S:bW W H h) {a d:ak} {C:aP} {fs:bp->Option ai} (b:h.get? a=none) (hd:h.get? d=none) (e:d≠a) (k:∀a o,h.get? a=some o->h'.get? a=some o) (c:iB W.G h' a C fs d):bW W (H.upd a (.inst C fs)) h':=(eB.uT S b hd e k c).sim S
theorem bh.uT (S:bW W H h) (P:ak->Prop) {a d:ak} {C:aP} {fs:bp->Option ai} (b:h.get? a=none) (hd:h.get? d=none) (e:d≠a) (k:∀a o,h.get? a=some o->h'.get? a=some o) (c:iB W.G h' a C fs d):bh W P H h (H.upd a (.inst C fs)) h':=
 (eB.uT S b hd e k c).JO S P b (λ _ q=>(c.Am (D:=C) q)▸hd) λ _ q=>(by cases q)
theorem eB.uU (S:bW W H h) {a d:ak} {C:aP} {fs:bp->Option ai} (q:hE H h a d) (g:∀b,b≠a->b≠d->h'.get? b=h.get? b) (c:iB W.G h' a C ov d) (e:H a=some (.inst C fs)):
  eB W (· =a) (λ b=>b=a∨b=d) H h (H.upd a (.inst C ov)) h':=by
 obtain ⟨_,_,_,_,n,z⟩:=S.own q;exact .set (S.3 _ _ e trivial) (λ b bT f p=>(g b (λ t=>f (.inl t)) λ t=>f (.inr t)).trans p) (λ x _=>d2.Ap S e) (λ b bT t p=>t.elim (λ t=>(S.here e).elim λ _ z=>dC z.1 (t▸p)▸z.2) λ t=>(S.own q).obj.elim λ _ z=>dC z.1 (t▸p)▸z.2)
  (λ b t=>t.elim (λ t=>t▸S.3 _ _ e trivial) λ t=>t▸z) (λ b t i=>t.elim (λ t=>(i t).elim) λ t=>t▸n) (λ b x t j p=>t.elim (λ t=>d2.Ap S e (t▸p)) λ t=>j (S.4 _ _ d (t▸p) q))
  ⟨d,c,(ag.er _ _ λ t=>no ((t▸n).symm.trans e)).trans n,z⟩ λ y b k p l=>k (S.4 _ _ d ((c.Am (D:=C) p)▸l) q)
theorem bW.uU (S:bW W H h) {a d:ak} {C:aP} {fs:bp->Option ai} (q:hE H h a d) (f:∀b,b≠a->b≠d->h'.get? b=h.get? b) (c:iB W.G h' a C ov d) (e:H a=some (.inst C fs)):bW W (H.upd a (.inst C ov)) h':=(eB.uU S q f c e).sim S
theorem bh.uU (S:bW W H h) (P:ak->Prop) {a d:ak} {C:aP} {fs:bp->Option ai} (q:hE H h a d) (f:∀b,b≠a->b≠d->h'.get? b=h.get? b) (c:iB W.G h' a C ov d) (e:H a=some (.inst C fs)):bh W P H h (H.upd a (.inst C ov)) h':=by
 refine (eB.uU S q f c e).keep S (λ b t=> .inl (t.elim (λ t=>t▸.o _ e trivial) λ t=>t▸.d a q)) (λ b t=> .inl (t▸.o _ e trivial)) (λ y b t p=> .inl ((c.Am (D:=C) (t▸p))▸.d a q)) (λ b t=> .inr λ n=> ?_) λ b xs t p=>c5.noConfusion (dA ((ag.fL H a _).symm.trans (t▸p)));obtain ⟨_,_,_,g,_,_,_,_,i,_⟩:=c;exact t.elim (λ t=>no (n.symm.trans (t▸g))) λ t=>no (n.symm.trans (t▸i))
theorem bW.adopt (S:bW W H h) {a:ak} {bT:c5} (nm:¬d2 H h a) (h0:W.h0.get? a=none) (b:∀C fs,bT≠ .inst C fs) (aI:gH W (H.upd a bT) h a bT):bW W (H.upd a bT) h:=
 (eB.set (D:=cT) h0 (λ _ _ _ e=>e) (λ x _ q=>nm (.d x q)) (λ _ _ d=>d.elim) (λ _ d=>d.elim) (λ _ d=>d.elim) (λ _ _ d=>d.elim) aI λ _ _ _ q=>(uS b q).elim).sim S
end
end
section
set_option genInjectivity true in
inductive gJ | one (i:Nat) | tup (is:aw)
inductive w8 | list | dict | inst (C:aP)
inductive k4 | append | extend | pop | index | get | k6
noncomputable def k4.str:k4->aW
 | .append=>"append" | .extend=>"extend" | .pop=>"pop" | .index=>"index" | .get=>"get" | .k6=>"setdefault"
noncomputable def k4.j0:k4->w8
 | .get | .k6=> .dict
 | _=> .list
inductive kl | b (m:k4) | o (C g:aP)
abbrev cq:=List (Option ai)
inductive w9 | next | brk | cont | ret (v:ai)
abbrev KE:=ai->ag->Prop
noncomputable def lim:Nat:=16000000
noncomputable def lM:gJ->ai->cq->Option cq
 | .one i,v,l=>some (l.set i (some v))
 | .tup is,v,l=>match v with
  | .tup vs=>if is.length=vs.length then some ((is.zip vs).foldl (λ l p=>l.set p.1 (some p.2)) l) else none
  | _=>none
noncomputable def cU (es:List (ai×ai)) (k:ai):Option ai:=(es.find? λ e=>e.1=k).map (·.2)
noncomputable def hk (es:List (ai×ai)) (k v:ai):List (ai×ai):=if (cU es k).isSome then es.map (λ e=>if e.1=k then (k,v) else e) else es++[(k,v)]
def sv (xs ys:aV):Prop:=(∀x∈xs,d1 4 x)∧∀y∈ys,d1 4 y
noncomputable def pu (c:aP) (f:bp):Bool:=[aP.hj,.kW,.jD,.iy,.fq].contains c&& !(c== .fq&&f== .number)
noncomputable def cx:ai->Int
 | .int x=>x
 | .tup (.int x::_)=>x
 | _=>0
theorem JP (x:Int):cx (.int x)=x:=rfl
theorem T5 (x:Int) (l:aV):cx (.tup (.int x::l))=x:=rfl
noncomputable def gB (a b:ai):Bool:=decide (cx a<=cx b)
def qY (xs:aV):Prop:=((∀x∈xs,∃i,x= .int i)∨(∀x∈xs,dB λ i m=>x= .tup [.int i,.int m]))∧(xs.map cx).Nodup
section
variable (H:ag)
inductive pE (Q:Bool->Prop):ai->ai->Prop
 | int {x y}:Q (decide (x=y))->pE Q (.int x) (.int y)
 | bool {x y}:Q (decide (x=y))->pE Q (.bool x) (.bool y)
 | str {x y}:Q (decide (x=y))->pE Q (.str x) (.str y)
 | tup {x y}:sv x y->Q (decide (x=y))->pE Q (.tup x) (.tup y)
 | list {x y xs ys}:H x=some (.list xs)->H y=some (.list ys)->sv xs ys->Q (decide (xs=ys))->pE Q (.ref x) (.ref y)
 | dict {x y es}:H x=some (.dict .int es)->H y=some (.dict .int es)->(∀e∈es,∃i,e.2= .int i)->Q true->pE Q (.ref x) (.ref y)
inductive uV (Q:Bool->Prop) (a:ai):ai->Prop
 | dict {y sh es}:H y=some (.dict sh es)->sh.has a->Q (cU es a).isSome->uV Q a (.ref y)
 | list {y ys}:H y=some (.list ys)->d1 4 a->(∀y∈ys,d1 4 y)->Q (decide (a∈ys))->uV Q a (.ref y)
 | tup {ys}:d1 4 a->(∀y∈ys,d1 4 y)->Q (decide (a∈ys))->uV Q a (.tup ys)
inductive iX (Q:Bool->Prop):ai->Prop
 | bool {b}:Q b->iX Q (.bool b)
 | none:Q false->iX Q .none
 | int {i}:Q (decide (i≠0))->iX Q (.int i)
 | list {x xs}:H x=some (.list xs)->xs.length<=lim->Q (decide (xs≠[]))->iX Q (.ref x)
inductive pF (K:aV->(ag->Prop)->Prop):ai->Prop
 | tup {vs}:K vs (λ _=>True)->pF K (.tup vs)
 | ic {lo ah}:lo.natAbs<2^60->ah.natAbs<2^60->K ((cg (ah - lo).toNat).map λ i=> .int (lo+(i:Nat))) (λ _=>True)->pF K (.ic lo ah)
 | list {x vs}:H x=some (.list vs)->K vs (λ aa=>aa x=some (.list vs))->pF K (.ref x)
 | dict {x es}:H x=some (.dict .int es)->K (es.map (·.1)) (λ aa=>∃es',aa x=some (.dict .int es')∧es'.map (·.1)=es.map (·.1))->pF K (.ref x)
inductive sR (v:ai) (Q:ag->Prop):ai->ai->Prop
 | list {x vs k}:H x=some (.list vs)->0<=k->k.toNat<vs.length->vs.length<=lim->Q (H.upd x (.list (vs.set k.toNat v)))->sR v Q (.ref x) (.int k)
 | dict {x sh es i}:H x=some (.dict sh es)->sh.has i->es.length<lim->Q (H.upd x (.dict sh (hk es i v)))->sR v Q (.ref x) i
inductive xa (f:bp) (v:ai) (Q:ag->Prop):ai->Prop
 | mk {x C fs}:H x=some (.inst C fs)->pu C f=true->Q (H.upd x (.inst C λ g=>if g=f then some v else fs g))->xa f v Q (.ref x)
variable (Q:KE)
inductive gK:uh->ai->ai->Prop
 | D9 {x y}:Q (.int (x+y)) H->gK .Add (.int x) (.int y)
 | JQ {x y}:x.length+y.length<=1000->Q (.str (x++y)) H->gK .Add (.str x) (.str y)
 | JR {x y xs ys}:H x=some (.list xs)->H y=some (.list ys)->xs.length+ys.length<=lim->(∀c,H c=none->Q (.ref c) (H.upd c (.list (xs++ys))))->gK .Add (.ref x) (.ref y)
 | sub {x y}:Q (.int (x - y)) H->gK .Sub (.int x) (.int y)
 | JS {x y}:x.natAbs<2^60->Q (.int (x*y)) H->gK .Mult (.int x) (.int y)
 | mulL {x y v}:H x=some (.list [v])->0<=y->y<=1000->(∀c,H c=none->Q (.ref c) (H.upd c (.list (eQ y.toNat v))))->gK .Mult (.ref x) (.int y)
 | fdiv {x y}:y≠0->y.natAbs<1000000000->Q (.int (x.fdiv y)) H->gK .FloorDiv (.int x) (.int y)
 | mod {x y}:y≠0->Q (.int (x.fmod y)) H->gK .Mod (.int x) (.int y)
 | and {x y:Nat}:Q (.int (x&&&y:Nat)) H->gK .BitAnd (.int x) (.int y)
 | or {x y:Nat}:Q (.int (x|||y:Nat)) H->gK .BitOr (.int x) (.int y)
 | shl {y:Nat}:y<64->Q (.int (2^y:Nat)) H->gK .LShift (.int 1) (.int y)
 | shr {x:Nat}:Q (.int (x/2:Nat)) H->gK .RShift (.int x) (.int 1)
inductive gm:pn->ai->ai->Prop
 | eq {a b}:pE H (λ c=>Q (.bool c) H) a b->gm .Eq a b
 | ne {a b}:pE H (λ c=>Q (.bool (!c)) H) a b->gm .NotEq a b
 | lt {x y}:Q (.bool (decide (x<y))) H->gm .Lt (.int x) (.int y)
 | gt {x y}:Q (.bool (decide (x>y))) H->gm .Gt (.int x) (.int y)
 | le {x y}:Q (.bool (decide (x<=y))) H->gm .LtE (.int x) (.int y)
 | ge {x y}:Q (.bool (decide (x≥y))) H->gm .GtE (.int x) (.int y)
 | Ea {a b}:uV H (λ c=>Q (.bool c) H) a b->gm .In a b
 | Eb {a b}:uV H (λ c=>Q (.bool (!c)) H) a b->gm .NotIn a b
 | is:Q (.bool true) H->gm .Is .none .none
 | JT:Q (.bool false) H->gm .IsNot .none .none
inductive qZ:ai->ai->Prop
 | tup {vs v} {k:Nat}:k<2^60->vs[k]? =some v->Q v H->qZ (.tup vs) (.int k)
 | list {x vs v} {k:Nat}:H x=some (.list vs)->k<2^60->vs[k]? =some v->Q v H->qZ (.ref x) (.int k)
 | dict {x sh es i v}:H x=some (.dict sh es)->sh.has i->cU es i=some v->Q v H->qZ (.ref x) i
inductive q0:ai->ai->ai->Prop
 | tup {vs} {k:Nat}:1<=k->k<=vs.length->vs.length<=lim->Q (.tup (vs.drop k)) H->q0 (.tup vs) (.int k) .none
 | str {s:aW} {k}:s.length<=lim->Q (.str (Ii s none (some k))) H->q0 (.str s) .none (.int k)
 | gG {x vs k}:H x=some (.gG vs)->0<=k->k<2^60->vs.length<=lim->(∀c,H c=none->Q (.ref c) (H.upd c (.list (vs.take k.toNat))))->q0 (.ref x) .none (.int k)
inductive Ar (f:bp):ai->Prop
 | mk {x C fs v}:H x=some (.inst C fs)->pu C f=true->fs f=some v->Q v H->Ar f (.ref x)
inductive ie:aP->aV->Prop
 | JU {vs}:vs.length<=lim->Q (.int vs.length) H->ie .sJ [.tup vs]
 | JV {x vs}:H x=some (.list vs)->vs.length<=lim->Q (.int vs.length) H->ie .sJ [.ref x]
 | JW {x n}:H x=some (.kX n)->n<=lim->Q (.int n) H->ie .sJ [.ref x]
 | JX {n}:n.natAbs<2^60->Q (.ic 0 n) H->ie .Ai [.int n]
 | JY {m n}:m.natAbs<2^60->n.natAbs<2^60->Q (.ic m n) H->ie .Ai [.int m,.int n]
 | JZ {x vs}:H x=some (.list vs)->vs.length<=lim->(∀c,H c=none->Q (.ref c) (H.upd c (.list vs)))->ie .qQ [.ref x]
 | J0 {x es}:H x=some (.dict .int es)->es.length<=lim->(∀c,H c=none->Q (.ref c) (H.upd c (.list (es.map (·.1)))))->ie .qQ [.ref x]
 | J1 {vs}:vs.length<=lim->(∀c,H c=none->Q (.ref c) (H.upd c (.list vs)))->ie .qQ [.tup vs]
 | listS {s:aW}:s.length<=1000->(∀c,H c=none->Q (.ref c) (H.upd c (.list (s.cps.toList.map λ n=> .str ⟨#[n]⟩))))->ie .qQ [.str s]
 | tup {x vs}:H x=some (.list vs)->vs.length<=lim->Q (.tup vs) H->ie .Aj [.ref x]
 | dict {kvs:List (ai×ai)}:kvs.length<=lim->(∀p∈kvs,Shape.int.has p.1)->(kvs.map (·.1)).Nodup->(∀c,H c=none->Q (.ref c) (H.upd c (.dict .int kvs)))->ie .Jv [.tup (kvs.map λ p=> .tup [p.1,p.2])]
 | J2 {x vs}:H x=some (.list vs)->vs.length<=60->qY vs->(∀c,H c=none->Q (.ref c) (H.upd c (.list (vs.mergeSort gB))))->ie .sL [.ref x]
 | J3 {x es}:H x=some (.dict .int es)->es.length<=60->(∀c,H c=none->Q (.ref c) (H.upd c (.list ((es.map (·.1)).mergeSort gB))))->ie .sL [.ref x]
 | J4 {vs}:vs.length<=60->qY vs->(∀c,H c=none->Q (.ref c) (H.upd c (.list (vs.mergeSort gB))))->ie .sL [.tup vs]
 | int {i}:Q (.int i) H->ie .Jw [.int i]
 | str {i}:i.natAbs<10^9->Q (.str (bj (CX i))) H->ie .Jx [.int i]
 | max {i j}:Q (.int (max i j)) H->ie .Jy [.int i,.int j]
 | set {x} {ns:aw}:H x=some (.list (ns.map λ n=> .tup [.int (n:Nat)]))->ns.Nodup->(∀n∈ns,n<50)->(∀c,H c=none->Q (.ref c) (H.upd c (.kX ns.length)))->ie .Jz [.ref x]
inductive ng (x:ak):k4->aV->Prop
 | append {v xs}:H x=some (.list xs)->xs.length<lim->Q .none (H.upd x (.list (xs++[v])))->ng x .append [v]
 | extend {y xs ys}:H x=some (.list xs)->H y=some (.list ys)->xs.length+ys.length<lim->x≠y->Q .none (H.upd x (.list (xs++ys)))->ng x .extend [.ref y]
 | pop {ys v}:H x=some (.list (ys++[v]))->ys.length<lim->Q v (H.upd x (.list ys))->ng x .pop []
 | index {s xs}:H x=some (.list xs)->(∀y∈xs,∃t,y= .str t)->xs.length<=lim->ai.str s∈xs->Q (.int (xs.findIdx (λ y=>decide (y=ai.str s)))) H->ng x .index [.str s]
 | get {k d sh es}:H x=some (.dict sh es)->sh.has k->Q ((cU es k).getD d) H->ng x .get [k,d]
 | J5 {k d sh es v}:H x=some (.dict sh es)->sh.has k->es.length<lim->cU es k=some v->Q v H->ng x .k6 [k,d]
 | J6 {k d sh es}:H x=some (.dict sh es)->sh.has k->es.length<lim->cU es k=none->Q d (H.upd x (.dict sh (es++[(k,d)])))->ng x .k6 [k,d]
end
noncomputable def c5.j0:c5->Option w8
 | .list _=>some .list
 | .dict _ _=>some .dict
 | .inst C _=>some (.inst C)
 | _=>none
noncomputable def As (H:ag):ai->Option w8
 | .ref x=>(H x).bind c5.j0
 | _=>none
end
section
noncomputable def aP.builtin (g:aP):Bool:=Nat.ble 49 g
noncomputable def aP.q1 (c:aP):Bool:=[aP.hj,.kW,.jD,.iy,.fq].contains c
noncomputable def kl.j0:kl->w8
 | .b m=>m.j0
 | .o C _=> .inst C
def j1 (W:a0) (fr:List b0) (H:ag) (h:a3):Prop:=∀env∈fr,env.scope.kind= .function∧dB λ L o=>env.frame=some L∧W.h0.get? L=none∧h.get? L=some o∧(dB λ es n=>o.data= .dict es n)∧¬d2 H h L
inductive T6 (aC h:a3) (e d:ak) (vs:Array aE):Prop
 | mk (T:ak) (gL:dq) (iY:Array aE) (J:vs[1]? =some (.ref T)) (af:aC.get? T=none) (aM:T≠e) (cb:T≠d) (d8:h.get? T=some gL) (gS:gL.data= .fields iY) (hD:gL.cls= .type "traceback") (qS:3<iY.size)
inductive sS (W:a0) (aC:a3) (e:ak) (h:a3):Prop
 | mk (c7:dq) (vs:Array aE) (d:ak) (m:aW->Option aE) (J:h.get? e=some c7) (af:c7.cls=W.G .jE) (aM:c7.dict=some d) (cb:c7.data= .fields vs) (d8:1<vs.size) (gS:aC.get? e=none) (hD:aC.get? d=none)
   (qS:h.Ns1 d m) (D6:m bp.at_.str=some .none∧m "told"=none) (aiO:vs[1]? =some .none∨T6 aC h e d vs)
noncomputable abbrev ow (W:a0) (r:Nat) (A:c8) (fr:List b0) (H:ag) (h:a3):Prop:=jC (A.depth+10*r<=900) (A.units+300*r+300<=ee) (A.handled=none) (A.frames=some fr) (j1 W fr H h)
noncomputable abbrev b4 (W:a0) (H:ag) (s:a4):Prop:=gR (bW W H s.heap) (s.gens= #[]) (s.os=W.os)
inductive dW (W:a0) (d3:ag) (h₀:a3) (Q:KE) (v:aE) (s':a4):Prop
 | mk (bg:ai) (aa:ag) (S:b4 W aa s') (k:bh W cT d3 h₀ aa s'.heap) (r:bt W.G s'.heap v bg) (q:Q bg aa)
inductive nh (W:a0) (P:ak->Prop) (d3:ag) (h₀:a3) (fr:List b0) (E:ag->Prop) (v:aE) (s':a4):Prop
 | mk (e:ak) (aa:ag) (ev:v= .ref e) (S:b4 W aa s') (k:bh W P d3 h₀ aa s'.heap) (hF:j1 W fr aa s'.heap) (km:sS W h₀ e s'.heap) (x:E aa)
def dw (W:a0) (r:Nat) (g:aP) (as:aV) (H:ag) (Q:KE) (E:ag->Prop):Prop:=
 ∀(A:c8) (fr:List b0) (s:a4) (vs:cH),ow W r A fr H s.heap->b4 W H s->dQ W.G s.heap vs as->
  jc (aX W.prog W.w) A (.call (W.G g) ⟨vs,[]⟩) (λ a s'=>match a with
   | .ok (.ret v)=>dW W H s.heap Q v s'
   | .ok _=>False
   | .error e=>nh W cT H s.heap fr E e s') s
def pG (W:a0) (r:Nat) (E:ag->Prop) (g:aP) (as:aV) (H:ag) (Q:KE):Prop:=
 match g.builtin with
 | true=>ie H Q g as
 | false=>dw W r g as H Q E
def Au (W:a0) (r:Nat) (E:ag->Prop) (o:ai) (m:kl) (as:aV) (H:ag) (Q:KE):Prop:=
 match m with
 | .b m=>∃x,o= .ref x∧ng H Q x m as
 | .o _ g=>dw W r g (o::as) H Q E
def mu:ag->Prop:=λ _=>False
theorem J7 {W:a0} {fr:List b0} {P:ak->Prop} {H:ag} {e:aE} {s':a4} (x:nh W P H h fr mu e s'):False:=by obtain ⟨_,_,_,_,_,_,_,z⟩:=x;exact z
def pH (ok:ag->Prop) (f:ai->ag->KE->Prop):aV->aV->ag->KE->Prop
 | [],b,H,Q=>ok H∧∀a,H a=none->Q (.ref a) (H.upd a (.list b))
 | x::xs,b,H,Q=>ok H∧f x H λ v aa=>pH ok f xs (b++[v]) aa Q
abbrev sT:=w9->cq->ag->Prop
def q2 (ok:ag->Prop) (f:ai->cq->ag->sT->Prop):aV->cq->ag->sT->Prop
 | [],l,H,Q=>ok H∧Q .next l H
 | x::xs,l,H,Q=>ok H∧f x l H λ cy a7 aa=>match cy with
  | .next=>q2 ok f xs a7 aa Q
  | .cont=>q2 ok f xs a7 aa Q
  | .brk=>Q .next a7 aa
  | .ret v=>Q (.ret v) a7 aa
inductive Op
 | aN (v:ai) | ae (i:Nat) | st (t:gJ) | pop | ints | neg | not
 | bin (op:uh) | cmp (op:pn) | call (x:Bool) (g:aP) (n:Nat)
 | cG (m:kl) | cj (x:Bool) (m:kl) (n:Nat) | bi (f:bp) | sub | slice
 | tup (n:Nat) | list (n:Nat) | iE | sU | eh (f:bp) | hl
 | gc (w:Bool) (b:List Op) | cf (a b:List Op) | loop (b:List Op) | each (t:gJ) (b:List Op) | comp (t:gJ) (n:Nat) (ei:aw) (b:List Op)
 | ret | cont | brk | raise
noncomputable abbrev aJ:=List Op
abbrev dK:=w9->aV->cq->ag->Prop
noncomputable def gn (f:aV->cq->ag->Prop) (K:dK):dK:=λ cy st l H=>match cy with | .next=>f st l H | cy=>K cy st l H
def dp (st:aV) (f:ai->aV->Prop):Prop:=match st with | x::s=>f x s | []=>False
def xb (i:Nat) (l:cq) (f:ai->Prop):Prop:=match l[i]? with | some (some v)=>f v | _=>False
def T7 (t:gJ) (v:ai) (l:cq) (H:ag) (f:cq->Prop):Prop:=(∃a7,lM t v l=some a7∧f a7)∨dB λ is x=>dB λ vs a7=>t= .tup is∧v= .ref x∧H x=some (.list vs)∧lM t (.tup vs) l=some a7∧f a7
noncomputable def pI (n:Nat) (ei:aw) (l:cq):cq:=eQ n none++ei.map λ j=>(l[j]?).join
section
variable (W:a0) (r:Nat) (E:ag->Prop)
mutual
def Av:Op->aV->cq->ag->dK->Prop
 | .aN v,st,l,H,K=>K .next (v::st) l H
 | .ae i,st,l,H,K=>xb i l λ v=>K .next (v::st) l H
 | .st t,st,l,H,K=>dp st λ v st=>T7 t v l H λ a7=>K .next st a7 H
 | .pop,st,l,H,K=>dp st λ _ st=>K .next st l H
 | .ints,st,l,H,K=>dp st λ x _=>(∃i,x= .int i)∧K .next st l H
 | .neg,st,l,H,K=>dp st λ x st=>∃i,x= .int i∧K .next (.int (-i)::st) l H
 | .not,st,l,H,K=>dp st λ x st=>iX H (λ b=>K .next (.bool (!b)::st) l H) x
 | .bin e,st,l,H,K=>dp st λ y st=>dp st λ x st=>gK H (λ v H=>K .next (v::st) l H) e x y
 | .cmp e,st,l,H,K=>dp st λ y st=>dp st λ x st=>gm H (λ v H=>K .next (v::st) l H) e x y
 | .call x g n,st,l,H,K=>pG W r (if x then E else mu) g (st.take n).reverse H λ v H=>K .next (v::st.drop n) l H
 | .cG m,st,l,H,K=>dp st λ x _=>As H x=some m.j0∧K .next st l H
 | .cj x m n,st,l,H,K=>dp (st.drop n) λ o st'=>Au W r (if x then E else mu) o m (st.take n).reverse H λ v H=>K .next (v::st') l H
 | .bi f,st,l,H,K=>dp st λ x st=>Ar H (λ v H=>K .next (v::st) l H) f x
 | .sub,st,l,H,K=>dp st λ y st=>dp st λ x st=>qZ H (λ v H=>K .next (v::st) l H) x y
 | .slice,st,l,H,K=>dp st λ b st=>dp st λ a st=>dp st λ x st=>q0 H (λ v H=>K .next (v::st) l H) x a b
 | .tup n,st,l,H,K=>K .next (.tup (st.take n).reverse::st.drop n) l H
 | .list n,st,l,H,K=>∀a,H a=none->K .next (.ref a::st.drop n) l (H.upd a (.list (st.take n).reverse))
 | .iE,st,l,H,K=>∃sh,∀a,H a=none->K .next (.ref a::st) l (H.upd a (.dict sh []))
 | .sU,st,l,H,K=>dp st λ y st=>dp st λ x st=>dp st λ o _=>dB λ a sh=>o= .ref a∧H a=some (.dict sh [])∧sh.has x∧K .next st l (H.upd a (.dict sh [(x,y)]))
 | .eh f,st,l,H,K=>dp st λ x st=>dp st λ v st=>xa H f v (λ H=>K .next st l H) x
 | .hl,st,l,H,K=>dp st λ y st=>dp st λ x st=>dp st λ v st=>sR H v (λ H=>K .next st l H) x y
 | .gc w b,st,l,H,K=>dp st λ x st'=>iX H (λ c=>if c=w then runs b st' l H K else K .next st l H) x
 | .cf a b,st,l,H,K=>dp st λ x st=>iX H (λ c=>if c then runs a st l H K else runs b st l H K) x
 | .loop d,st,l,H,K=>∀P:cq->ag->Prop,(∀l H,runs d st l H (λ cy _ a7 aa=>match cy with | .next=>P a7 aa | .cont=>P a7 aa | .brk=>K .next st a7 aa | .ret v=>K (.ret v) st a7 aa)->P l H)->P l H
 | .each t b,st,l,H,K=>dp st λ o st=>pF H (λ xs ok=>q2 ok (λ x l H h=>∃a7,lM t x l=some a7∧runs b st a7 H λ cy _ a7 aa=>h cy a7 aa) xs l H λ cy a7 aa=>K cy st a7 aa) o
 | .comp t n ei b,st,l,H,K=>dp st λ o st=>pF H (λ xs ok=>xs.length<=lim∧pH ok (λ x j k=>∃a7,lM t x (pI n ei l)=some a7∧runs b [] a7 j λ cy s _ aa=>cy= .next∧∃v,s=[v]∧k v aa) xs [] H λ v aa=>K .next (v::st) l aa) o
 | .ret,st,l,H,K=>dp st λ v st=>K (.ret v) st l H
 | .cont,st,l,H,K=>K .cont st l H
 | .brk,st,l,H,K=>K .brk st l H
 | .raise,st,_,H,_=>dp st λ v _=>((∃s,v= .str s)∧2<=r)∧E H
def runs:aJ->aV->cq->ag->dK->Prop
 | [],st,l,H,K=>K .next st l H
 | o::k,st,l,H,K=>Av o st l H (gn (λ st l H=>runs k st l H K) K)
end
end
section
variable {W:a0} {H:ag} {s:a4} {Q:KE}
theorem b4.tok (S:b4 W H s) (t:Nat):b4 W H {s with toks:=t}:=⟨S.1,S.2,S.3⟩
theorem b4.heap (S:b4 W H s) {aa:ag} {h':a3} (x:bW W aa h') (t:Nat):b4 W aa {s with heap:=h',toks:=t}:=⟨x,S.2,S.3⟩
theorem hn (S:b4 W H s) {v:aE} (t:Nat) (a:bt W.G s.heap v bg) (q:Q bg H):dW W H s.heap Q v {s with toks:=t}:=
 ⟨bg,H,S.tok t,bh.refl ..,a,q⟩
theorem jh (S:b4 W H s) {v:aE} (a:bt W.G s.heap v bg) (q:Q bg H):dW W H s.heap Q v s:=⟨bg,H,S,bh.refl ..,a,q⟩
theorem q3 (S:b4 W H s) {v:aE} (t:Nat) (k:∀a o,s.heap.get? a=some o->h'.get? a=some o) (b:bt W.G h' v bg) (q:Q bg H):dW W H s.heap Q v {s with heap:=h',toks:=t}:=
 ⟨bg,H,S.heap (S.1.grow k) t,bh.grows S.1 _ k,b,q⟩
theorem uW {xs:aV} (C:aP) (fs:bp->Option ai):c5.list xs≠ .inst C fs:=λ e=>(by cases e)
theorem uX {sh:Shape} {es:List (ai×ai)} (C:aP) (fs:bp->Option ai):c5.dict sh es≠ .inst C fs:=λ e=>(by cases e)
theorem pJ (S:b4 W H s) {xs:aV} {items:Array aE} {n:Nat} {c:ak} (t:Nat) (b:s.heap.get? c=none) (k:∀a o,s.heap.get? a=some o->h'.get? a=some o)
  (aI:h'.get? c=some {cls:= .type "list",data:= .seq items n}) (e:dQ W.G s.heap items.toList xs) (q:∀c,H c=none->Q (.ref c) (H.upd c (.list xs))):
  dW W H s.heap Q (.ref c) {s with heap:=h',toks:=t}:=
 have d:gH W (H.upd c (.list xs)) h' c (.list xs):=⟨items,n,aI,e.stays (.of_keep k)⟩
 ⟨.ref c,H.upd c (.list xs),S.heap (S.1.mr b k uW d) t,bh.mr S.1 _ b k uW d,.ref c,q _ (S.1.none_of b)⟩
theorem ig (S:b4 W H s) {a:ak} {xs:aV} (e:H a=some (.list xs)):gT W.G s.heap a xs:=S.1.1 _ _ e
theorem aiP (S:b4 W H s) {a:ak} {sh:Shape} {es:List (ai×ai)} (e:H a=some (.dict sh es)):iW W.G s.heap a sh es:=S.1.1 _ _ e
theorem gT.isList {a:ak} {xs:aV} {items:Array aE} {n:Nat} (e:h.get? a=some {cls:= .type "list",data:= .seq items n}) (r:dQ G h items.toList xs):h.IsList a items∧items.size=xs.length:=
 ⟨⟨_,e,rfl,n,rfl⟩,r.length⟩
end
end
end Mine
end
section
open PySem PySem.W PyProof.Rows PySem.Calls PySem.SeqAt
namespace Mine
variable {i j m n r:Nat} {h h':a3} {a d x:ak} {b o v:ai} {l vs xs y ys:aV} {j2 u:aE} {es:List (ai×ai)} {sh:Shape} {ents:Array lH} {prog:gi} {w:fp} {t:Tok} {Q:Unit->a4->Prop} {G:aP->aE} {kvs:List (Int×aE)} {items:Array aE} {f:bp} {p:Array Nat}
open Classical
section
section
variable {W:a0} {H:ag} {s:a4} {A:c8} {E:cA} {Q:KE}
theorem J8 {fr:List b0} (R:ow W r A fr H h):A.units+300<=ee:=bB (Nat.add_le_add_right (fJ ..) 300) R.2
theorem k7 (h:n<=lim):n<=sx:=by rw [jX];exact bB h (by decide)
theorem T8 (a b:Nat):R8 (a:Int) (b:Int)=((a&&&b:Nat):Int):=by simp [R8]
theorem T9 (a b:Nat):agQ (a:Int) (b:Int)=((a|||b:Nat):Int):=by
 have d:∀x:Nat,decide (0<=CY (x:Int))=false:=λ x=>decide_eq_false (by unfold CY;exact Int.not_le.mpr (Int.lt_of_lt_of_le (Int.sub_lt_self _ (by decide)) (Int.neg_nonpos_of_nonneg (m6 x))))
 have c:∀x:Nat,(CY (CY (x:Int)))=x:=λ x=>by unfold CY;rw [Int.neg_sub,Int.sub_neg,Int.add_comm 1,Int.add_sub_cancel]
 unfold agQ R8;rw [d,d,c,c];rw [c];rfl
theorem addLists (S:b4 W H s) {b:ak} (i:H a=some (.list xs)) (j:H b=some (.list ys)) (hz:xs.length+ys.length<=lim) (q:∀c,H c=none->Q (.ref c) (H.upd c (.list (xs++ys)))):
  aR (aX W.prog W.w) A (CZ .Add (.ref a) (.ref b)) (dW W H s.heap Q) E s:=by
 obtain ⟨k,l,d,f⟩:=ig S i;obtain ⟨m,n,g,h⟩:=ig S j;refine concat_meets ⟨_,d,rfl⟩ ⟨_,g,rfl⟩ noFill_list_add seq_list_add PySem.F.slot_list_add PySem.F.entry_list_add (PySem.F.args_list_add_2 _ _)
  (list_addW a b k m l n none none #[] #[] (k7 (bB (bE (congr (congrArg _ f.length) h.length)) hz))) ⟨d,g,?_⟩
 exact pJ S s.toks (gA _) (λ _ _ e=>dP _ e) (hc _ rfl) (by rw [Ij];exact f.append h) q
theorem dk.replicate {α β:Type} {R:α->β->Prop} {v:α} {a:β} (x:R v a):∀n:Nat,dk R (eQ n v) (eQ n a):=by
 intro n
 induction n with
 | zero=>
  exact .nil
 | succ n ih=>
  exact .cons x (ih)
theorem foldl_rep (v:aE):∀(n:Nat) (a:Array aE),(R9 (λ b c=>b++c) a (eQ n #[v])).toList=a.toList++eQ n v:=by
 intro n
 induction n with
 | zero=>
  exact λ a=>(h9 _).symm
 | succ n ih=>
  exact λ a=>(ih (a++ #[v])).trans (by rw [Ij,jy];rfl)
theorem Ua (S:b4 W H s) {x:Int} {u:Tok} (d:H a=some (.list [v])) (h0:0<=x) (J:x<=1000) (q:∀c,H c=none->Q (.ref c) (H.upd c (.list (eQ x.toNat v)))):
  aR (aX W.prog W.w) A (CZ .Mult (.ref a) (.int x u)) (dW W H s.heap Q) E s:=by
 obtain ⟨⟨l⟩,k,b,f⟩:=ig S d;obtain ⟨y,rfl,g⟩:=f.one;refine wpAny_binaryOp_repeat_ref (T:="list") (U:="int") (by decide) ⟨_,b,rfl⟩ (λ s'=>typeIs_int s' x u) noFill_list_mul F.fills_int_mul agR repeat_list F.slot_int_index.lookup
  (ui agR (typeIs_int s x u) F.entry_int_rmul (F.args_int_rmul_2 _ _) (int___rmul___int_list x u a #[y] k)
   ⟨b,rfl,⟨_,b,rfl⟩,ui F.slot_list_mul ⟨_,b,rfl⟩ F.entry_list_mul (F.args_list_mul_2 _ _)
    (AutoListH.list___mul___list_int_3 a #[y] k x u (by simp [Builtin.List.listFitsIndex];exact ⟨C0 (by decide) h0,wk J (by decide)⟩) (by simp;exact C0 J (by decide)) (by rw [show (#[y]:Array aE).size=1 from rfl];simp [Builtin.List.listTooLong,sx];exact C0 J (by decide)))
    ⟨b,?_⟩⟩)
 refine pJ S s.toks (gA _) (λ _ _ e=>dP _ e) (hc _ rfl) ?_ q;show dQ W.G s.heap (R9 (λ h i=>h++i) #[] (eQ x.toNat #[y])).toList _;rw [foldl_rep];exact dk.replicate g _
theorem Ub {x y:Int} (h:x.natAbs<2^60):IntMulOk x y:=IntMulOk.of_left (bB (intBits_le h) (by decide))
theorem pK {a:uh} {x y:Int} {v:aE} {R:cA} (b:bt W.G s.heap u (.int x)) (c:bt W.G s.heap v (.int y)) (k:∀t t',aR (aX W.prog W.w) A (CZ a (.int x t) (.int y t')) R E s):aR (aX W.prog W.w) A (CZ a u v) R E s:=
 b.inv.elim λ t e=>c.inv.elim λ t' d=>e▸d▸k t t'
theorem Uc {g:uh} {a:ai} {v:aE} (S:b4 W H s) (c:bt W.G s.heap u a) (d:bt W.G s.heap v b) (h:gK H Q g a b):
  aR (aX W.prog W.w) A (CZ g u v) (dW W H s.heap Q) E s:=by
 induction h with
 | JQ _ h=>exact c.inv.elim λ t e=>d.inv.elim λ t' i=>e▸i▸add_str (λ _ _=>hn S _ (.str _ _) h)
 | JR f j k h=>exact (show u= .ref _ from c.inv)▸(show v= .ref _ from d.inv)▸addLists S f j k h
 | mulL f h0 J h=>exact d.inv.elim λ t e=>(show u= .ref _ from c.inv)▸e▸Ua S f h0 J h
 | D9 h=>exact pK c d λ t t'=>P.add_int (hn S _ (.int _ _) h)
 | sub h=>exact pK c d λ t t'=>P.sub_int (hn S _ (.int _ _) h)
 | JS l h=>exact pK c d λ t t'=>P.mul_int (hn S _ (.int _ _) h) (Ub l)
 | fdiv n l h=>exact pK c d λ t t'=>floordiv_int n (hn S _ (.int _ _) h) (.inl (PyProof.noPylong_small (bX l (by decide))))
 | mod n h=>exact pK c d λ t t'=>mod_int' n (hn S _ (.int _ _) h)
 | and h=>exact pK c d λ t t'=>and_int (hn S _ (.int _ _) (T8 .. ▸h))
 | or h=>exact pK c d λ t t'=>or_int (hn S _ (.int _ _) (T9 .. ▸h))
 | @shl y l h=>
  refine pK c d λ t t'=> ?_;refine lshift_int_small (m6 _) (mf.mpr (bF (bX l (by decide)))) (by decide) (hn S _ (.int _ _) ?_)
  rw [show (1:Int)*2^(y:Int).toNat=((2^y:Nat):Int) by simp];exact h
 | @shr x h=>
  refine pK c d λ t t'=> ?_;refine rshift_int (by decide) (hn S _ (.int _ _) ?_)
  rw [show ((x:Int)).fdiv (2^(1:Int).toNat)=((x/2:Nat):Int) by rw [agS _ (by decide)];rfl];exact h
end
end
section
theorem xd {α:Type} [BEq α] [LawfulBEq α] {x y:α} {i:Decidable (x=y)}:(x==y)=decide (x=y):=uO beq_iff_eq
theorem Ec {α:Type} [BEq α] [LawfulBEq α] {x y:α} {i:Decidable (x=y)}:(x !=y)= !decide (x=y):=congrArg Bool.not xd
theorem Aw (k:∀x∈l,d1 4 x):shaped (.list (toPys l))=true:=
 d6.mpr ⟨(uN λ a b=>(k a b).lay).1,decide_eq_true (bB (ug (uN λ a b=>(k a b).lay).2) (by decide))⟩
theorem Ed {x:aV} (k:sv x y):(PyData.list (toPys x)).eqv (.list (toPys y))=decide (x=y):=uO (JE λ a b _ c=>(k.1 a b).eqv (k.2 _ c))
theorem J9 {x:aV} (k:sv x y):(toPy (.tup x)).eqv (toPy (.tup y))=decide (x=y):=Ed k
section
variable {W:a0} {H:ag} {s:a4} {A:c8} {E:cA} {Q:cA}
theorem xe (S:bW W H s.heap) (b:H a=some (.list l)) (k:∀x∈l,d1 4 x):∃as,Reads s.heap (.ref a) (.list (toPys l)) as:=by
 obtain ⟨items,n,c,d⟩:=S.1 _ _ b;exact (readsAll d λ a b v=>(k a b).reads v).elim λ as r=>⟨_,.list c rfl rfl r⟩
theorem Ud {x:aV} {v:aE} (a:bt W.G s.heap u (.tup x)) (b:bt W.G s.heap v (.tup y)) (k:sv x y) (r:A.units+64<ee) (h:Q (.bool (decide (x=y))) s):aR (aX W.prog W.w) A (od .Eq u v) Q E s:=
 ((d1.tup k.1).reads u a).elim λ as e7=>((d1.tup k.2).reads v b).elim λ bs aL=>eq_dataH e7 aL ((d1.tup k.1).sh (by decide)) ((d1.tup k.2).sh (by decide)) r (J9 k▸h)
theorem Ue {x:aV} {v:aE} (a:bt W.G s.heap u (.tup x)) (b:bt W.G s.heap v (.tup y)) (k:sv x y) (r:A.units+64<ee) (h:Q (.bool (!decide (x=y))) s):aR (aX W.prog W.w) A (od .NotEq u v) Q E s:=
 ((d1.tup k.1).reads u a).elim λ as e7=>((d1.tup k.2).reads v b).elim λ bs aL=>ne_dataH e7 aL ((d1.tup k.1).sh (by decide)) ((d1.tup k.2).sh (by decide)) r (J9 k▸h)
theorem Ug (S:bW W H s.heap) {b:ak} {x:aV} (c:H a=some (.list x)) (d:H b=some (.list y)) (k:sv x y) (r:A.units+64<ee) (h:Q (.bool (decide (x=y))) s):aR (aX W.prog W.w) A (od .Eq (.ref a) (.ref b)) Q E s:=
 (xe S c k.1).elim λ as e7=>(xe S d k.2).elim λ bs aL=>eq_dataH e7 aL (Aw k.1) (Aw k.2) r (Ed k▸h)
theorem Uh (S:bW W H s.heap) {b:ak} {x:aV} (c:H a=some (.list x)) (d:H b=some (.list y)) (k:sv x y) (r:A.units+64<ee) (h:Q (.bool (!decide (x=y))) s):aR (aX W.prog W.w) A (od .NotEq (.ref a) (.ref b)) Q E s:=
 (xe S c k.1).elim λ as e7=>(xe S d k.2).elim λ bs aL=>ne_dataH e7 aL (Aw k.1) (Aw k.2) r (Ed k▸h)
theorem Ax {a:ai} (k:∀x∈l,d1 4 x) (b:d1 4 a):((toPys l).any λ d=>d.eqv (toPy a))=decide (a∈l):=by
 refine uO ?_
 induction l with
 | nil=>exact ⟨λ e=>absurd e fS,λ e=>(by cases e)⟩
 | cons x l ih=>
  refine (Sa.trans (or_congr ((k x (.head _)).eqv b) (ih λ y c=>k y (.tail _ c)))).trans ((or_congr_left ?_).trans dZ.symm);exact eq_comm
end
end
section
theorem uZ (e:ai×ai) (es:List (ai×ai)) (j:ai):cU (e::es) j=if e.1=j then some e.2 else cU es j:=by
 unfold cU;rw [C1]
 by_cases h:e.1=j
 ·rw [decide_eq_true h,if_pos h];rfl
 ·rw [decide_eq_false h,if_neg h]
theorem Ay {k:ai} (h:k∉es.map (·.1)):cU es k=none:=by
 induction es with
 | nil=>rfl
 | cons x xs ih=>exact (uZ ..).trans ((if_neg λ (e:x.1=k)=>h (e▸.head _)).trans (ih λ m=>h (.tail _ m)))
theorem Ka {k:ai} (e:es[j]? =some (k,v)):k∈es.map (·.1):=bH.mpr ⟨_,cY e,rfl⟩
theorem Ee (a:(es.map (·.1)).Nodup) {k:ai} (e:es[j]? =some (k,v)):cU es k=some v:=by
 induction es generalizing j with
 | nil=>exact (by cases e)
 | cons x xs ih=>
  rw [uZ];cases j with
  | zero=>have e:=dA e;subst e;exact if_pos rfl
  | succ j=>exact (if_neg λ (q:x.1=k)=>(kP.mp a).1 (q.symm▸Ka e:x.1∈_)).trans (ih (kP.mp a).2 e)
theorem Ui {k:ai} (a:k∉es.map (·.1)):es.map (λ e=>if e.1=k then (k,v) else e)=es:=by
 induction es with
 | nil=>rfl
 | cons x xs ih=>rw [fe,if_neg (λ (e:x.1=k)=>a (e▸.head _)),ih λ m=>a (.tail _ m)]
theorem Uj {k:ai}:(es.map λ e=>if e.1=k then (k,v) else e).map (·.1)=es.map (·.1):=by
 rw [e5];exact kf λ x _=>by by_cases e:x.1=k<;>simp [e]
section
variable {G:aP->aE} {h:a3} {prog:gi} {w:fp}
theorem kY.modify {k p:ai} (f:bt G h u v) {ents:List lH} (r:kY G h ents es):∀{j:Nat},(es.map (·.1)).Nodup->es[j]? =some (k,p)->
  kY G h (ents.modify j λ e=>{e with val:=u}) (es.map λ e=>if e.1=k then (k,v) else e):=by
 induction r with
 | nil=>exact λ _ e=>(by cases e)
 | @cons a b as bs x d ih=>
  intro j c e;have c:=kP.mp c;rw [fe];cases j with
  | zero=>have e:=dA e;subst e;rw [if_pos rfl,Ui c.1];exact .cons ⟨x.1,x.2,f⟩ d
  | succ j=>rw [if_neg λ (q:b.1=k)=>c.1 (q.symm▸Ka e:b.1∈_)];exact .cons x (ih c.2 e)
theorem Uk {l:List lH} (r:kY G h l es):(∀e∈es,Shape.key.has e.1)->∃xs:List (ai×ak×aE),l=xs.map (entryOfKey (JG G prog w))∧(∀x∈xs,bt G h (.ref x.2.1) x.1∧Shape.key.has x.1)∧xs.map (·.1)=es.map (·.1):=by
 induction r with
 | nil=>exact λ _=>⟨[],rfl,(λ _ h=>(by cases h)),rfl⟩
 | @cons e p l es x _ ih=>
  intro b;obtain ⟨xs,aD⟩:=ih λ e d=>b e (.tail _ d);have ao:=b p (.head _);obtain ⟨a,c⟩:∃a,e.key= .ref a:=ao.elim λ l z=>by
   obtain ⟨a,_,_,_,q,_⟩:=(z.1▸x.2:bt G h e.key (.tup l)).inv;exact ⟨a,q⟩
  refine ⟨(p.1,a,e.val)::xs,congr (congrArg _ ?_) aD.1,kg.mpr ⟨⟨c▸x.2,ao⟩,aD.2.1⟩,congrArg (p.1:: ·) aD.2.2⟩;obtain ⟨f,g,i⟩:=e;rw [show f=kk p.1 from x.1,show g= .ref a from c];rfl
theorem intAt {sh:Shape} (D:sP G h d .int es ents n) {e:lH} (b:ents[j]? =some e):hi λ i v t=>es[j]? =some (.int i,v)∧e.hash=CT i∧e.key= .int i t:=by
 refine eo λ c=> ?_;obtain ⟨⟨k,v⟩,J,a⟩:=D.2.get' (i:=j) (jz▸b);refine c ?_;obtain ⟨i,q⟩:=D.3 _ (cY J);dsimp only at q;subst q;exact a.2.inv.elim λ t e=>⟨i,v,t,J,a.1,e⟩
end
section
variable {W:a0} {A:c8} {E:cA} {s:a4}
theorem sW {prog:gi} {w:fp} {i j:Int}:(mg prog w).is i (.int j t)=decide (j=i):=(show (j==i)=_ from xd)
theorem Ef {cx:aE} {k:ai} {Q:Option Nat->a4->Prop} (B:A.units+9<ee) (D:sP W.G s.heap d sh es ents n) (ao:bt W.G s.heap cx k) (c:sh.has k)
  (h:k∉es.map (·.1)->Q none s) (o:∀(j:Nat) (p:ai),es[j]? =some (k,p)->Q (some j) s):aR (aX W.prog W.w) A (dictFind d cx (kk k)) Q E s:=by
 cases sh with
 | int=>
  obtain ⟨i,rfl⟩:=c;obtain ⟨t,rfl⟩:=ao.inv;refine wpAny_dictFind_of (knd:=mg W.prog W.w) (k:=i) (sW.trans (decide_eq_true rfl)) D.1 rfl (λ e C=> ?_) ?_
  ·obtain ⟨j,b⟩:=Array.mem_iff_getElem?.mp C;refine eo λ f=> ?_;obtain ⟨i,v,t,r⟩:=intAt (sh:= .int) D b;refine f ?_;exact ⟨i,r.2.2▸sW.trans (decide_eq_true rfl),r.2.1⟩
  ·cases u:ents.findIdx? λ e=>(mg W.prog W.w).is i e.key with
   | none=>
    refine h λ m=> ?_;refine eo λ f=> ?_;obtain ⟨p,F,G⟩:=bH.mp m;refine f ?_;obtain ⟨j,b⟩:=R5.mp F;obtain ⟨e,x⟩:=D.2.get b;exact (G▸x.2.2).inv.elim λ t H=>absurd ((H▸(Array.findIdx?_eq_none_iff.mp u e (Array.mem_of_getElem? (jz▸x.1)))).symm.trans (sW.trans (decide_eq_true rfl))) fS
   | some j=>
    obtain ⟨bK,J,_⟩:=Array.findIdx?_eq_some_iff_getElem.mp u;obtain ⟨L,v,t,y⟩:=intAt (sh:= .int) D (uj bK);exact o j v (of_decide_eq_true (sW.symm.trans (y.2.2▸J))▸y.1)
 | key=>
  obtain ⟨xs,aD⟩:=Uk (prog:=W.prog) (w:=W.w) D.2 D.3;obtain ⟨a,e⟩:∃a,cx= .ref a:=c.elim λ l z=>by
   obtain ⟨a,_,_,_,q,_⟩:=(z.1▸ao:bt W.G s.heap cx (.tup l)).inv;exact ⟨a,q⟩
  subst e;refine wpAny_dictFind_heap (knd:=JG W.G W.prog W.w) (k:=k) B ⟨ao,c⟩ D.1 rfl aD.1 aD.2.1 (aD.2.2▸D.4) (λ I=>h λ m=> ?_) λ j p b=> ?_
  ·obtain ⟨j,b⟩:=R5.mp (aD.2.2▸m);rw [ff] at b;obtain ⟨⟨K,q⟩,g,e⟩:=iv.mp b;exact I j q (g.trans (congrArg (λ k=>some (k,q)) e))
  ·have:=(λ j p b=>aD.2.2▸(by rw [ff,b];rfl):∀(j:Nat) p,xs[j]? =some (k,p)->(es.map (·.1))[j]? =some k) j p b
   rw [ff] at this;obtain ⟨⟨K,q⟩,g,e⟩:=iv.mp this;exact o j q (g.trans (congrArg (λ k=>some (k,q)) e))
theorem Eg {k:ai} (a:A.units+9<ee) (x:sh.has k):D0 W.prog W.w A E W.G h k:=by
 cases sh with
 | int=>exact keyHash (n:=0) (a9 (fJ ..) a) x
 | key=>exact keyHash (ob a) (sN x)
theorem Eh {cx:aE} {k:ai} {Q:Option aE->a4->Prop} (a:A.units+9<ee) (hd:iW W.G s.heap d sh es) (ao:bt W.G s.heap cx k) (b:sh.has k)
  (f:cU es k=none->∀t,Q none {s with toks:=t}) (g:∀v bg,cU es k=some bg->bt W.G s.heap v bg->∀t,Q (some v) {s with toks:=t}):aR (aX W.prog W.w) A (C2 d cx) Q E s:=by
 refine eo λ h=> ?_;obtain ⟨ents,n,D⟩:=hd;refine h ?_;unfold C2;refine eb (aG (Eg a b s _ _ rfl ao (aG (Ef (s:={s with toks:=s.toks+jZ k}) a D ao b (λ i=>bl (f (Ay i) _)) λ j p c=> ?_))))
 obtain ⟨e,l,x⟩:=D.2.get c;refine aG (agT (s:={s with toks:=s.toks+jZ k}) D.1 rfl ?_)
 rw [<- jz,l];exact bl (g _ _ (Ee D.4 c) x.3 _)
theorem sP.stays (D:sP W.G h d sh es ents n) (a:n9 d h h'):e0 h h':= .sameBut D.1 (λ s=>s.uR rfl) a
theorem Um {k p:ai} (D:sP W.G h d sh es ents n) (b:bt W.G h j2 v) (a:es[j]? =some (k,p)):
  iW W.G (h.update d (Obj.mapDict (·.modify j λ e=>{e with val:=j2}))) d sh (hk es k v):=by
 have st:=D.stays (qE h d (Obj.mapDict (·.modify j λ e=>{e with val:=j2})))
 have e:hk es k v=es.map λ e=>if e.1=k then (k,v) else e:=if_pos (by rw [Ee D.4 a];rfl)
 rw [e];refine ⟨ents.modify j λ e=>{e with val:=j2},n,(sy _ D.1 rfl),?_,λ e c=> ?_,Uj.symm▸D.4,D.5.trans (cz _).symm,D.6⟩
 ·rw [Array.toList_modify];exact (kY.modify (b.stays st) (kY.stays st D.2) D.4 a)
 ·obtain ⟨x,f,rfl⟩:=bH.mp c
  split
  ·exact D.3 (k,p) (cY a)
  ·exact D.3 x f
theorem Kb {cx:aE} {k:ai} (D:sP W.G h d sh es ents n) (ao:bt W.G h cx k) (b:sh.has k) (c:bt W.G h j2 v) (f:k∉es.map (·.1)):
  iW W.G (h.update d (agU (·.push ⟨kk k,cx,j2⟩))) d sh (es++[(k,v)]):=by
 have st:=D.stays (qE h d (agU (·.push ⟨kk k,cx,j2⟩)));refine ⟨ents.push ⟨kk k,cx,j2⟩,n+1,sy _ D.1 rfl,?_,λ e a=>(c6.mp a).elim (D.3 e) λ a=>b3.mp a▸b,?_,?_,D.6⟩
 ·rw [CW];exact (kY.stays st D.2).append (.cons ⟨rfl,ao.stays st,c.stays st⟩ .nil)
 ·rw [eR];exact gx.mpr ⟨D.4,kP.mpr ⟨(λ h=>(by cases h)),C3⟩,λ x g y i e=>f ((e.trans (b3.mp i):x=k)▸g)⟩
 ·rw [cI,<- D.5];rfl
theorem Ei {cx:aE} {k:ai} (b:A.units+9<ee) (hd:iW W.G s.heap d sh es) (ao:bt W.G s.heap cx k) (a:sh.has k) (c:bt W.G s.heap j2 v) (hz:es.length<lim)
  (q:∀h' t,n9 d s.heap h'->iW W.G h' d sh (hk es k v)->Q () {s with heap:=h',toks:=t}):aR (aX W.prog W.w) A (dictSet d cx j2) Q E s:=by
 refine eo λ g=> ?_;obtain ⟨ents,n,D⟩:=hd;refine g ?_;unfold dictSet;refine eb (aG (Eg b a s _ _ rfl ao ?_));unfold dictSetHashed;refine eb (aG (Ef (s:={s with toks:=s.toks+jZ k}) b D ao a (λ f=> ?_) λ j p h=> ?_))
 ·refine aG (wm (agV (hz:=k7 ((pq▸D.2.length)▸bF hz)) (s:={s with toks:=s.toks+jZ k}) D.1 rfl (q _ _ (qE ..) ?_)))
  have e:hk es k v=es++[(k,v)]:=by unfold hk;rw [Ay f];rfl
  rw [e];exact Kb D ao a c f
 ·exact aG (wm (aG (wpAny_updateDict (s:={s with toks:=s.toks+jZ k}) D.1 rfl (Ik (q _ _ (qE ..) (Um D c h))))))
theorem Un {cx:aE} {k:ai} {Q:cA} (b:A.units+9<ee) (hd:iW W.G s.heap d sh es) (ao:bt W.G s.heap cx k) (a:sh.has k) (g:bt W.G s.heap j2 v) (hz:es.length<lim)
  (h:∀u bg,cU es k=some bg->bt W.G s.heap u bg->∀t,Q u {s with toks:=t})
  (i:cU es k=none->∀h' t,n9 d s.heap h'->iW W.G h' d sh (es++[(k,v)])->Q j2 {s with heap:=h',toks:=t}):aR (aX W.prog W.w) A (Sb d cx j2) Q E s:=by
 obtain ⟨ents,n,D⟩:=hd;unfold Sb;refine eb (aG (Eg b a s _ _ rfl ao (aG (Ef (s:={s with toks:=s.toks+jZ k}) b D ao a (λ c=> ?_) λ j p f=> ?_))))
 ·exact aG (wm (aG (agV (hz:=k7 ((pq▸D.2.length)▸bF hz)) (s:={s with toks:=s.toks+jZ k}) D.1 rfl (bl (i (Ay c) _ _ (qE ..) (Kb D ao a g c))))))
 ·refine eo λ l=> ?_;obtain ⟨e,m,x⟩:=D.2.get f;refine l ?_;refine aG (agT (s:={s with toks:=s.toks+jZ k}) D.1 rfl ?_)
  rw [<- jz,m];exact aG (wm (bl (h _ _ (Ee D.4 f) x.3 _)))
end
end
section
noncomputable def q6 (g:aP):aE:=[wo "len",.type "range",.type "list",.type "tuple",.type "dict",.builtin "sorted",.type "int",.type "str",.builtin "max"].getD (g - 49) (.type "set")
noncomputable def u0:List (aW×aP×aP):=[(bj "set_items",.hj,.Ac),(bj "add",.jD,.w2),(bj "place",.jD,.DW),(bj "work",.jD,.DX),(bj "symbol_count",.fq,.Ad),(bj "is_terminal",.fq,.Ae),(bj "rules_of",.fq,.uL),(bj "item",.fq,.w3),(bj "rule_of",.fq,.Af),(bj "dot_of",.fq,.Ag),(bj "after",.fq,.Ah)]
noncomputable def sX:List (aW×aP):=([("bits",0),("spread",1),("nullable",2),("first_of",3),("first_masks",4),("CanonicalState",5),("CanonicalAutomaton",6),("closure_one",7),("advanced",8),("first_kernel",9),("build_canonical",10),("clashes",11),("canonical_clashes",12),("is_lr_one",13),("weakly_compatible",14),("united",15),("PagerMaker",16),("numbered",17),("build_pager",18),("Rule",19),("Grammar",20),("last_terminal",21),("plain_grammar",22),("_law_pick",23),("_law_pairs",24),("_law_core",25),("_law_compatible",26),("_law_is_whole",27),("_law_refused",28),("GrammarError",29),("len",49),("range",50),("list",51),("tuple",52),("dict",53),("sorted",54),("int",55),("str",56),("max",57),("set",58)]:List (String×Nat)).map λ p=>(bj p.1,p.2)
noncomputable def Up:ai:= .tup [.str (bj "$end"),.str (bj "error"),.str (bj "$undefined")]
noncomputable def Uq:ai:= .tup (["xyz","xzy","yxz","yzx","zxy","zyx"].map λ s=> .str (bj s))
noncomputable def Ej:List (aW×ai):=[(bj "END",.int 0),(bj "OWN_TERMINALS",Up),(bj "_law_orders",Uq)]
noncomputable abbrev Ek (K:dt) (C:aP) (c:ak):Prop:=eT (findIn K (.ref c) "__getattribute__"=some (some (.builtin "object.__getattribute__"))) (findIn K (.ref c) "__getattr__"=some none) (findIn K (.ref c) "__setattr__"=some (some (.builtin "object.__setattr__"))) (zu K c=true) (plainOver K c=true) (∀f:bp,pu C f=true->findIn K (.ref c) f.str=some none)
def nj (W:a0) (x:aW) (u:aE):Prop:=kh W.K W.gl x=some (some u)∨(kh W.K W.gl x=some none∧∃jF,W.h0.Ns zv jF∧jF x=some u)
noncomputable abbrev dR (W:a0):Prop:=eT (∀C c,C.q1=true->W.G C= .ref c->Ek W.K C c) (∀g,uk (W.G g)=true) (∀x g,sX.lookup x=some g->nj W x (W.G g)) (∀x v,Ej.lookup x=some v->∃u,nj W x u∧bt W.G W.h0 u v) (∀g:aP,g.builtin=true->W.G g=q6 g) (jC (∀g:aP,g.builtin=false->keepIn W.K (W.G g)=true) (∀x C g,u0.lookup x=some (C,g)->C.q1=true∧(∀f:bp,f.str≠x)∧g.builtin=false∧∀c,W.G C= .ref c->∃a,W.G g= .ref a∧findIn W.K (.ref c) x=some (some (.ref a))∧oe W.K (.ref a)=some (.type "function")) (W.K.In W.h0) (W.h0.NoLimit) (dB λ b o=>W.h0.get? b=some o∧zr<b))
section
variable {W:a0} {H:ag} {s:a4} {A:c8} {E:cA} {Q:KE}
theorem ox (S:bW W H s.heap) (e:H d=some (.dict sh es)):(d==zr)=false:=by
 obtain ⟨_,_,x⟩:=S.1 _ _ e;exact beq_eq_false_iff_ne.mpr x.6
theorem dR.size (K:dR W) {h:a3} (S:bW W H h):h.objs.size≠zr:=
 K.6.5.elim λ b o e=>m7 (bX e.2 (iu (S.2 _ _ e.1)))
theorem u1 (D:iW W.G s.heap d sh es):s.TypeIs (.ref d) "dict":=by obtain ⟨_,_,x⟩:=D;exact ⟨_,x.1,rfl⟩
theorem Kc (S:bW W H s.heap) {cx:aE} {k:ai} {Q:Bool->a4->Prop} (c:A.units+20<=ee) (hd:H d=some (.dict sh es)) (ao:bt W.G s.heap cx k) (e:sh.has k)
  (h:∀t,Q (cU es k).isSome {s with toks:=t}):aR (aX W.prog W.w) A (contains (.ref d) cx) Q E s:=by
 have b:=S.1 _ _ hd;have a:=u1 b;unfold contains;refine eb (aG (Ig a Sd.lookup ?_));show aR _ _ (if (some (wo "dict.__contains__")==some mh)=true then _ else _) _ E s
 rw [if_neg (by rw [beq_builtin_none];exact fS)]
 refine aG (wpAny_callSpecialUnlessNone?_slot (name:=bj "__contains__") a Sd
  (wq Sd a entry_dict_contains ?_ (args_dict_contains _ _)))
 show aR _ _ (C2 d cx>>=_) _ _ s;refine aG (Eh (bx (wt (by decide:1+9<20) _) c) b ao e (λ f t=> ?_) λ v bg g _ t=>bl ⟨_,rfl,Il ((show (cU es k).isSome=true from congrArg C4 g)▸h t)⟩)
 show aR _ _ (Builtin.Dict.pendingKey? d cx>>=_) _ _ _;exact aG (wpAny_pendingKey_other (ox S hd) (bl ⟨_,rfl,Il ((show (cU es k).isSome=false from congrArg C4 f)▸h t)⟩))
theorem AB {a:ai} (b:A.units+70<ee) (c:d1 4 a):A.units+1+min (agL (toPys l)) (toPy a).depth<ee:=a9 (pl (bB (wu ..) c.lay.2) _) (a9 (pl (by decide:1+(4+1)<=70) _) b)
theorem Kd (S:b4 W H s) {a:ai} {v:aE} {Q:Bool->Prop} {R:cA} (g:A.units+70<ee) (f:bt W.G s.heap u a) (i:bt W.G s.heap v b) (h:uV H Q a b):
  ((∀c,Q c->∀t,R (.bool c) {s with toks:=t})->aR (aX W.prog W.w) A (od .In u v) R E s)∧((∀c,Q c->∀t,R (.bool (!c)) {s with toks:=t})->aR (aX W.prog W.w) A (od .NotIn u v) R E s):=by
 induction h with
 | dict hd j q=>
  have e:v= .ref _:=i.inv;subst e;exact ⟨λ r=>aG (Kc S.1 (ct (.l (.s (.a .p (.k 70))) (.k 9900)<| .g (.a .p (.k 20)) (.k 9900)) rfl g) hd f j λ t=>bl (r _ q t)),λ r=>aG (Kc S.1 (ct (.l (.s (.a .p (.k 70))) (.k 9900)<| .g (.a .p (.k 20)) (.k 9900)) rfl g) hd f j λ t=>bl (r _ q t))⟩
 | list k J d q=>
  have e:v= .ref _:=i.inv;subst e;have L:=(uN λ a f=>(d a f).lay).1;exact (xe S.1 k d).elim λ as e7=>(J.reads u f).elim λ bs aL=>⟨λ r=>in_list_reads e7 aL L J.lay.1 (AB g J) (Ax d J▸r _ q s.toks),λ r=>notIn_list_reads e7 aL L J.lay.1 (AB g J) (Ax d J▸r _ q s.toks)⟩
 | tup J d q=>
  have L:=(uN λ a f=>(d a f).lay).1;exact ((d1.tup d).reads v i).elim λ as e7=>(J.reads u f).elim λ bs aL=>⟨λ r=>in_tuple_reads e7 aL L J.lay.1 (AB g J) (Ax d J▸r _ q s.toks),λ r=>notIn_tuple_reads e7 aL L J.lay.1 (AB g J) (Ax d J▸r _ q s.toks)⟩
noncomputable abbrev sY (G:aP->aE) (h:a3) (q:Int×aE) (p:ai×ai):Prop:=A2 (p.1= .int q.1) (bt G h q.2 p.2)
theorem Ur {prog:gi} {w:fp} {l:List lH} (r:kY G h l es):(∀e∈es,Shape.int.has e.1)->
  ∃kvs,Pairs (mg prog w) l kvs∧(∀e∈l,∃k,(mg prog w).is k e.key=true/\ e.hash=(mg prog w).hash k)∧dk (sY G h) kvs es:=by
 induction r with
 | nil=>exact λ _=>⟨[],.nil,(λ _ h=>(by cases h)),.nil⟩
 | @cons e p l es x _ ih=>
  intro b;refine eo λ c=> ?_;obtain ⟨kvs,dp,eU,hS⟩:=ih λ e d=>b e (.tail _ d);refine c ?_;obtain ⟨k,a⟩:=b p (.head _);have is:(mg prog w).is k e.key=true:=(a▸x.2).inv.elim λ t f=>f▸sW.trans (decide_eq_true rfl);exact ⟨(k,e.val)::kvs,.cons is rfl dp,kg.mpr ⟨⟨k,is,x.1.trans (congrArg kk a)⟩,eU⟩,.cons ⟨a,x.3⟩ hS⟩
theorem Ke (x:dk (sY G h) kvs es):es.map (·.1)=(kvs.map (·.1)).map ai.int:=by
 induction x with
 | nil=>rfl
 | cons h _ ih=>exact congr (congrArg _ h.1) ih
theorem Ut (x:dk (sY G h) kvs es) {k i:Int}:(es.map (·.1)).Nodup->(ai.int k,ai.int i)∈es->∃t,valueAt kvs k=some (.int i t):=by
 induction x with
 | nil=>exact λ _ h=>(by cases h)
 | @cons q p _ _ h _ ih=>
  intro a m;have a:=kP.mp a;unfold valueAt;rcases dZ.mp m with e | m
  ·rw [List.find?_cons_of_pos (p:=λ cx:Int×aE=>decide (cx.1=k)) (decide_eq_true (ai.int.inj (h.1.symm.trans (e▸rfl))))];exact (e▸h.2:bt G _ q.2 (.int i)).inv.elim λ t e=>⟨t,congrArg some e⟩
  ·rw [List.find?_cons_of_neg (p:=λ cx:Int×aE=>decide (cx.1=k)) λ (e:decide (q.1=k)=true)=>a.1 ((h.1.trans (congrArg ai.int (of_decide_eq_true e))).symm▸Im (f:=(·.1)) m:p.1∈_)];exact ih a.2 m
theorem Kf {xf:List (Int×aE)} {fs:List (ai×ai)} (y:dk (sY G h) xf fs) (c:(fs.map (·.1)).Nodup) (d:∀e∈fs,∃i,e.2= .int i) {a:List (Int×aE)} (x:dk (sY G h) a es):(∀e∈es,e∈fs)->KeqHits A s xf a true:=by
 induction x with
 | nil=>exact λ _=> .nil
 | @cons q p _ _ x _ ih=>
  intro m;obtain ⟨i,b⟩:=d p (m _ (.head _));obtain ⟨t',e⟩:=Ut y (k:=q.1) (i:=i) c ((show p=(.int q.1,.int i) from x.1▸b▸rfl)▸m _ (.head _));obtain ⟨t,f⟩:=(b▸x.2:bt G h q.2 (.int i)).inv;exact .hit (e:=true) e (f▸λ prog w E Q q=>Se ((beq_self_eq_true i).symm▸q)) (ih λ e g=>m e (.tail _ g))
theorem sZ {prog:gi} {w:fp} (x:iW G h d .int es):∃kvs,h.DictAt (mg prog w) d kvs es.length∧h.DictOf (mg prog w) d kvs∧dk (sY G h) kvs es∧(es.map (·.1)).Nodup:=by
 refine eo λ c=> ?_;obtain ⟨ents,n,D⟩:=x;refine c ?_;refine eo λ c=> ?_;obtain ⟨kvs,dp,eU,hS⟩:=Ur (prog:=prog) (w:=w) D.2 D.3;refine c ?_;have f:(kvs.map (·.1)).Nodup:=List.Pairwise.of_map ai.int (λ a b h e=>h (congrArg _ e)) (Ke hS▸D.4);have ks:=λ e g=>eU e (Io.mpr g);exact ⟨kvs,⟨_,ents,D.5▸D.1,⟨rfl,rfl,rfl⟩,rfl,ks,dp,f⟩,⟨_,ents,n,D.1,⟨rfl,rfl,rfl⟩,rfl,ks,dp,f⟩,hS,D.4⟩
theorem El (S:b4 W H s) {a:ai} {v:aE} {Q:Bool->Prop} {R:cA} (o:A.units+70<ee) (d:bt W.G s.heap u a) (f:bt W.G s.heap v b) (h:pE H Q a b):
  ((∀c,Q c->R (.bool c) s)->aR (aX W.prog W.w) A (od .Eq u v) R E s)∧((∀c,Q c->R (.bool (!c)) s)->aR (aX W.prog W.w) A (od .NotEq u v) R E s):=by
 have i:A.units+64<ee:=a9 (pl (by decide) _) o
 induction h with
 | @int x y h=>exact d.inv.elim λ t e=>f.inv.elim λ t' j=>e▸j▸⟨λ q=>P.eq_int (xd (x:=x) (y:=y)▸q _ h),λ q=>P.ne_int (Ec (x:=x) (y:=y)▸q _ h)⟩
 | @bool x y h=>exact (show u= .bool _ from d.inv)▸(show v= .bool _ from f.inv)▸⟨λ q=>eq_bool (xd (x:=x) (y:=y)▸q _ h),λ q=>ne_bool (Ec (x:=x) (y:=y)▸q _ h)⟩
 | @str x y h=>exact d.inv.elim λ t e=>f.inv.elim λ t' j=>e▸j▸⟨λ q=>PyProof.Rows.eq_str (xd (x:=x) (y:=y)▸q _ h),λ q=>PyProof.Rows.ne_str (Ec (x:=x) (y:=y)▸q _ h)⟩
 | tup k h=>exact ⟨λ q=>Ud d f k i (q _ h),λ q=>Ue d f k i (q _ h)⟩
 | list J g k h=>exact (show u= .ref _ from d.inv)▸(show v= .ref _ from f.inv)▸⟨λ q=>Ug S.1 J g k i (q _ h),λ q=>Uh S.1 J g k i (q _ h)⟩
 | dict J g k h=>
  refine eo λ l=> ?_;obtain ⟨D,_,p,m,_⟩:=sZ (prog:=W.prog) (w:=W.w) (S.1.1 _ _ J);refine l ?_;refine eo λ l=> ?_;obtain ⟨xf,_,r,n,z⟩:=sZ (prog:=W.prog) (w:=W.w) (S.1.1 _ _ g);refine l ?_;have B:(D.length==xf.length&&true)=true:=by rw [m.length,n.length,beq_self_eq_true];rfl
  have C:A.units<ee:=a9 (fJ ..) o;exact (show u= .ref _ from d.inv)▸(show v= .ref _ from f.inv)▸⟨λ q=>keq_eq (ox S.1 J) (ox S.1 g) p r C (λ _=>Kf n z k m λ _ h=>h) (B.symm▸q true h),λ q=>keq_ne (ox S.1 J) (ox S.1 g) p r C (λ _=>Kf n z k m λ _ h=>h) ((congrArg Bool.not B).symm▸q true h)⟩
theorem AC {a:pn} {x y:Int} {v:aE} {R:cA} (b:bt W.G s.heap u (.int x)) (c:bt W.G s.heap v (.int y)) (k:∀t t',aR (aX W.prog W.w) A (od a (.int x t) (.int y t')) R E s):aR (aX W.prog W.w) A (od a u v) R E s:=
 b.inv.elim λ t e=>c.inv.elim λ t' d=>e▸d▸k t t'
theorem Ki (S:b4 W H s) {g:pn} {a:ai} {v:aE} (f:A.units+70<ee) (d:bt W.G s.heap u a) (e:bt W.G s.heap v b) (h:gm H Q g a b):
  aR (aX W.prog W.w) A (od g u v) (dW W H s.heap Q) E s:=by
 induction h with
 | eq h=>exact (El S f d e h).1 λ c q=>jh S (.bool _) q
 | ne h=>exact (El S f d e h).2 λ c q=>jh S (.bool _) q
 | Ea h=>exact (Kd S f d e h).1 λ c q t=>hn S t (.bool _) q
 | Eb h=>exact (Kd S f d e h).2 λ c q t=>hn S t (.bool _) q
 | lt h=>exact AC d e λ t t'=>P.lt_int (jh S (.bool _) h)
 | le h=>exact AC d e λ t t'=>P.le_int (jh S (.bool _) h)
 | gt h=>exact AC d e λ t t'=>P.gt_int (jh S (.bool _) h)
 | ge h=>exact AC d e λ t t'=>P.ge_int (jh S (.bool _) h)
 | is h=>obtain rfl:u= .none:=d.inv;obtain rfl:v= .none:=e.inv;exact λ _ _ _=>jh S (.bool _) h
 | JT h=>obtain rfl:u= .none:=d.inv;obtain rfl:v= .none:=e.inv;exact λ _ _ _=>jh S (.bool _) h
end
end
section
section
variable {W:a0} {H:ag} {s:a4} {A:c8} {E:cA} {Q:KE}
theorem Uu {i:Decidable (xs≠[])} (h:dQ W.G s.heap items.toList xs):(!items.isEmpty)=decide (xs≠[]):=by
 obtain ⟨l⟩:=items;cases h with
 | nil=>exact (decide_eq_false λ h=>h rfl).symm
 | cons=>exact (decide_eq_true λ h=>(by cases h)).symm
theorem En (S:b4 W H s) {a:ai} {Q:Bool->Prop} {R:Bool->a4->Prop} (d:bt W.G s.heap u a) (h:iX H Q a) (q:∀c,Q c->∀t,R c {s with toks:=t}):aR (aX W.prog W.w) A (C5 u) R E s:=by
 induction h with
 | bool h=>exact (show u= .bool _ from d.inv)▸Il (q _ h s.toks)
 | none h=>obtain rfl:u= .none:=d.inv;exact λ _ _ _=>q _ h s.toks
 | @int i h=>exact d.inv.elim λ t e=>e▸P.truthy_int ((uO (bne_iff_ne (a:=i) (b:=0)))▸q _ h s.toks)
 | @list x xs j hz h=>
  obtain rfl:u= .ref x:=d.inv;obtain ⟨items,n,g,f⟩:=ig S j;exact wpAny_truthy_list (gT.isList g f).1 (wk (mf.mpr ((gT.isList g f).2▸hz)) (by decide)) (Uu f▸q _ h _)
theorem Uv (S:b4 W H s) {cx:aE} {k:ai} (a:A.units+20<=ee) (hd:H d=some (.dict sh es)) (ao:bt W.G s.heap cx k) (f:sh.has k) (c:cU es k=some v) (q:Q v H):
  aR (aX W.prog W.w) A (zw (.ref d) cx) (dW W H s.heap Q) E s:=by
 have e:=S.1.1 _ _ hd;have b:=u1 e;unfold zw;refine eb (aG (Sf b (by decide) ?_))
 refine aG (Sg (name:=bj "__getitem__") b Sh
  (wq Sh b entry_dict_getitem ?_ (args_dict_getitem _ _)))
 show aR _ _ (C2 d cx>>=_) _ _ s;exact aG (Eh (bx (wt (by decide:1+9<20) _) a) e ao f (λ g t=>no (g.symm.trans c)) λ u bg h a t=>bl ⟨u,rfl,bl (hn S t a (dC c h▸q))⟩)
theorem Eo {k:Nat} (h:k<2^60):(k:Int)<2^63:=C6 (hx.mpr h) (by decide)
theorem Uw (S:b4 W H s) {i:ai} {v:aE} {r slice:cu} (z:A.units+20<=ee) (e:bt W.G s.heap u o) (f:bt W.G s.heap v i) (h:qZ H Q o i)
  (g:∀o i,Ip slice false o i=Iq [o,i] (zw o i)):aR (aX W.prog W.w) A (Ir r slice u v) (dW W H s.heap Q) E s:=by
 induction h with
 | @tup vs x k j b q=>
  obtain ⟨a,bT,items,n,rfl,B,aI,_,hd,d⟩:=e.inv;obtain ⟨t,rfl⟩:=f.inv;obtain ⟨y,c,l⟩:=d.get b;rw [jz] at c;have m:IsTup s.heap a items:=⟨_,B,aI,n,hd⟩;have ao:seqIndex? (k:Int) items.size=some k:=by
   unfold seqIndex?;rw [if_neg (zx.mpr (m6 _)),if_pos (by simp;exact ((It.mp c).1))];rfl
  exact zy m.typeIs agW.lookup (getItem_tuple m (C0 (by decide) (m6 k)) (Eo j) ao c (jh S l q)) (g _ _)
 | @list x vs w k b j hw q=>
  obtain rfl:u= .ref x:=e.inv;obtain ⟨t,rfl⟩:=f.inv;obtain ⟨items,n,C,d⟩:=ig S b;obtain ⟨y,c,l⟩:=d.get hw;rw [jz] at c;have p:=(gT.isList C d).1;exact zy p.typeIs agX.lookup (wpAny_getItem_list p (m6 k) (Eo j) c (jh S l q)) (g _ _)
 | @dict x sh es i F b D hw q=>
  obtain rfl:u= .ref x:=e.inv;exact zy (u1 (S.1.1 _ _ b)) Sh.lookup (Uv S z b f D hw q) (g _ _)
end
end
section
section
variable {W:a0} {H:ag} {s:a4} {A:c8} {E:cA} {Q:KE}
theorem Et (k:∀a o,h.get? a=some o->h'.get? a=some o) (e:h'.get? a=none):h.get? a=none:=kO.mpr λ o q=>no (e.symm.trans (k a o q))
theorem Uy (S:b4 W H s) {lo w:ai} {l v:aE} {C slice:cu} (d:bt W.G s.heap u o) (f:bt W.G s.heap l lo) (g:bt W.G s.heap v w) (h:q0 H Q o lo w) (t:Nat)
  (m:∀o i,Ip slice false o i=Iq [i,o] (zw o i)):
  aR (aX W.prog W.w) A (Ir C slice u (.ref s.heap.objs.size)) (dW W H s.heap Q) E {s with heap:=s.heap.push {cls:= .type "slice",data:= .fields #[l,v,.none]},toks:=t}:=by
 have b:∀a o,s.heap.get? a=some o->(s.heap.push {cls:= .type "slice",data:= .fields #[l,v,.none]}).get? a=some o:=λ a o e=>dP _ e
 induction h with
 | @tup vs j J y p q=>
  obtain ⟨a,bT,items,n,rfl,D,aI,_,hd,c⟩:=d.inv;obtain ⟨t',rfl⟩:=f.inv;obtain rfl:v= .none:=g.inv;have z:IsTup (s.heap.push {cls:= .type "slice",data:= .fields #[.int j t',.none,.none]}) a items:=⟨_,b _ _ D,aI,n,hd⟩;refine zy z.typeIs agW.lookup (getItem_tuple_from z (agY ..) (J) (by have:=c.length;rw [pq] at this;exact bB y (bE this.symm)) ?_ (k7 (by have:=c.length;rw [pq] at this;exact bB (bE this) p))) (m _ _)
  exact q3 S t (λ a o e=>dP _ (b a o e)) (.tup (hc _ rfl) ⟨rfl,rfl⟩ rfl ((c.drop j).stays (.of_keep λ a o e=>dP _ (b a o e)))) q
 | @str x k J q=>
  obtain ⟨t',rfl⟩:=d.inv;obtain rfl:l= .none:=f.inv;obtain ⟨F,rfl⟩:=g.inv;refine zy (typeIs_str _ _ _) PySem.F.slot_str_getitem.lookup ?_ (m _ _);exact wpAny_getItem_str_slice (l:=none) (u:=some (_,F)) (st:=none) ⟨_,hc _ rfl,rfl,rfl⟩ rfl
   (post_val_or_str ⟨bB (Txt.slice_le _ _ _) (k7 J),λ t' k=>q3 S k b (.str _ _) q⟩)
 | @gG x vs k G J y p q=>
  obtain rfl:u= .ref x:=d.inv;obtain rfl:l= .none:=f.inv;obtain ⟨t',rfl⟩:=g.inv;obtain ⟨items,⟨bT,e,r⟩,c⟩:=S.1.1 _ _ G;have B:(s.heap.push {cls:= .type "slice",data:= .fields #[.none,.int k t',.none]}).IsList x items:=⟨bT,b _ _ e,r⟩;refine zy B.typeIs agX.lookup (wpAny_getItem_list_slice B (agY ..) .none (.int ..) .none (by simp) ?_ (k7 (by have:=c.length;rw [pq] at this;exact bB (bE this) p))) (m _ _)
  refine pJ S t (Et b (gA _)) (λ a o e=>dP _ (b a o e):∀a o,s.heap.get? a=some o->((s.heap.push {cls:= .type "slice",data:= .fields #[.none,.int k t',.none]}).push {cls:= .type "list",data:= .seq (slicePick items none (some k) none)}).get? a=some o) (hc _ rfl) ?_ q;rw [kms_pick_eq];have:=c.take k.toNat;rw [List.take_eq_take_min] at this;unfold kms_pick kms_lo kms_hi;simp only [agZ,zx.mpr J,if_false,Nat.sub_zero];exact this
end
end
section
theorem Kk {C:aP} (h:pu C f=true):C.q1=true:=(d6.mp h).1
theorem AD {o:dq} {m:aW->Option aE} (N:h.Ns1 d m) (e:h.get? d=some o) (x:aW):lookIn x o=some (m x):=by
 obtain ⟨bw,es,ep,a,hd,ao,i,c⟩:=N;obtain rfl:=dC e a;unfold lookIn;rw [hd];dsimp only;rw [<- c x];unfold nsFind findBy;rw [<- ag0];have f:es.toList.any (·.refKey)=false:=Si.mpr λ b g=>by
  obtain ⟨n,t,q⟩:=ao b (Io.mp g);unfold ag1;rw [q];exact fS
 rw [f];cases es.toList.find? (λ e=>e.key.isStr x)<;>rfl
section
variable {W:a0} {H:ag} {s:a4} {A:c8} {E:cA} {Q:KE}
theorem bt.handed (K:dR W) {v:aE} {a:ai} (x:bt W.G h v a):uk v=true:=
 bt.casesOn (motive_1:=λ v _ _=>uk v=true) x rfl (λ _=>rfl) (λ _ _=>rfl) (λ _ _=>rfl) (λ _=>rfl) K.2 (λ _ _ _ _=>rfl) λ _=>rfl
theorem bW.ji (K:dR W) (S:bW W H s.heap):W.K.In s.heap:=λ a o e=>S.2 a o (K.6.3 a o e)
inductive Uz (W:a0) (h:a3) (x:ak) (C:aP) (fs:bp->Option ai) (d:ak):Prop
 | mk (c:ak) (dT d7:dq) (m:aW->Option aE) (aI:W.G C= .ref c) (q8:sz h x dT c (some d7)) (hd:dT.dict=some d) (aH:h.get? d=some d7) (bU:h.Ns1 d m) (AE:sQ W.G h m fs)
theorem iB.at {C:aP} {fs:bp->Option ai} {d:ak} (I:iB W.G h x C fs d):Uz W h x C fs d:=by
 obtain ⟨dT,e,m,a1,a2,⟨c,bA⟩,cW,a,b,i,f,g⟩:=I;exact ⟨c,dT,e,m,bA,⟨a1,a2.trans bA,cW.1,(by rw [a];exact b)⟩,a,b,f,g⟩
theorem UA (K:dR W) (S:b4 W H s) {ex:Bool} (e:bt W.G s.heap u o) (h:Ar H Q f o):aR (aX W.prog W.w) A (getAttr u f.str ex) (dW W H s.heap Q) E s:=by
 induction h with
 | @mk x C fs v g a i q=>
  obtain rfl:u= .ref x:=e.inv;obtain ⟨d,I,_⟩:=S.1.1 _ _ g;obtain ⟨c,dT,t,m,aI,j,hd,l,n,p⟩:=I.at;obtain ⟨y,r,b⟩:=p.1 _ _ i;have k:=K.1 C c (Kk a) aI;exact get_value (S.1.ji K) j k.1 (findObj_own k.4 (k.6 f a) rfl (by rw [AD n l,r])) (b.handed K) (hn S _ b q)
theorem UB {m:aW->Option aE} {fs:bp->Option ai} (x:sQ G h m fs) (c:bt G h u v):sQ G h (λ z=>if z=f.str then some u else m z) (λ g=>if g=f then some v else fs g):=by
 refine ⟨λ g bg e=> ?_,λ z w e=> ?_⟩
 ·by_cases a:g=f
  ·exact ⟨u,if_pos (congrArg _ a),dA ((if_pos a).symm.trans e)▸c⟩
  ·exact (x.1 g bg ((if_neg a).symm.trans e)).elim λ w b=>⟨w,(if_neg λ q=>a (bp.str_inj q)).trans b.1,b.2⟩
 ·by_cases hz:z=f.str
  ·exact ⟨f,hz.symm,congrArg C4 (if_pos rfl:(if f=f then some v else fs f)=some v)⟩
  ·obtain ⟨g,aD⟩:=x.2 _ _ ((if_neg hz).symm.trans e);refine ⟨g,aD.1,?_⟩
   by_cases e:g=f
   ·exact congrArg C4 (if_pos e)
   ·exact (congrArg C4 (if_neg e)).trans aD.2
theorem UC (K:dR W) (S:b4 W H s) {x:aE} {Q:ag->Prop} {R:Unit->a4->Prop} (T:bt W.G s.heap u o) (U:bt W.G s.heap x v) (h:xa H f v Q o)
  (q:∀aa s',b4 W aa s'->bh W cT H s.heap aa s'.heap->Q aa->R () s'):aR (aX W.prog W.w) A (Iu u f.str x) R E s:=by
 induction h with
 | @mk y C fs i p h=>
  obtain rfl:u= .ref y:=T.inv;obtain ⟨d,I,V,h0⟩:=S.1.1 _ _ i;have t:=I.JM i;obtain ⟨dT,X,m,a1,a2,⟨c,bA⟩,cW,j,B,l,Y,D⟩:=id I;have k:=K.1 C c (Kk p) bA;have F:sz s.heap y dT c (some X):=⟨a1,a2.trans bA,cW.1,(by rw [j];exact B)⟩
  refine set_plain (S.1.ji K) F k.3 (osa_open (s:={s with toks:=s.toks+1}) (r:=none) (S.1.ji K) F k.5 (by unfold takerIn;rw [k.6 f p];rfl) λ b=> ?_)
  dsimp only;obtain ⟨cd,aI,Z⟩:=Iv k.4;have G:dT.cls= .ref c:=a2.trans bA;obtain ⟨Eu,Kn,Ko,Ew⟩:=dT;dsimp only at G j;subst G j;refine aG (bl (aG (aG (C7 a1 (aG ((Sj (s:={s with toks:=s.toks+1}) (Iw (bW.ji (s:={s with toks:=s.toks+1}) K (S.tok (s.toks+1)).1) aI)) ?_))))))
  rw [Z];refine bl (a:=some d) (aG (bl (aG (Sk Y λ h' J n=> ?_))));have zz:Within (λ z=>if z=f.str then some x else m z) bp.Ak:=λ z hz=>by
   by_cases e:z=f.str
   ·exact e▸f.JL
   ·cases L:m z with
    | none=>exact absurd ((if_neg e).trans L) hz
    | some w=>exact (D.2 _ _ L).elim λ g b=>b.1▸g.JL
  obtain ⟨Ex,es,ep,M,N,cB⟩:=J.count zz;refine aG (Sl M (by rw [N];exact Sm (bB cB (by rw [jX];decide))) (bl ?_))
  have O:∀b,b≠y->b≠d->h'.get? b=s.heap.get? b:=λ b _ aq=>n.2 b aq;have st:e0 s.heap h':= .sameBut B (λ s=>l.elim λ _ _ l=>s.uR l) n;have P:iB W.G h' y C (λ g=>if g=f then some v else fs g) d:=
   ⟨_,Ex,_,(n.2 y (λ e=>no (V.symm.trans (e▸i)):y≠d)).trans a1,a2,⟨c,bA⟩,cW,rfl,M,⟨_,_,N⟩,J,UB (D.stays st) (U.stays st)⟩
  exact q _ _ ((S.heap (S.1.uU t O P i) _)) (bh.uU S.1 _ t O P i) h
end
end
section
section
variable {W:a0} {H:ag} {s:a4} {A:c8} {E:cA} {Q:KE}
theorem Kq (a:Array aE) (n:Nat) (f:Array aE->Array aE):
  ∃b,iR f {cls:= .type "list",data:= .seq a n}={cls:= .type "list",data:= .seq (f a) b}:=⟨_,rfl⟩
noncomputable abbrev Kr (W:a0) (H:ag) (h:a3) (aa:ag) (h':a3):Prop:=gR (bW W aa h') (bh W cT H h aa h') (e0 h h')
theorem Ks (S:b4 W H s) {ys:aV} {f:Array aE->Array aE} (e:H a=some (.list xs)) (b:s.heap.get? a=some {cls:= .type "list",data:= .seq items n})
  (g:dQ W.G s.heap (f items).toList ys):Kr W H s.heap (H.upd a (.list ys)) (s.heap.update a (iR f)):=by
 have sb:n9 a s.heap (s.heap.update a (iR f)):=qE ..;have st:e0 s.heap (s.heap.update a (iR f)):= .sameBut b (λ s=>s.cls (v:= .type "list") rfl (by decide) (by decide)) sb
 obtain ⟨h,d⟩:=Kq items n f;have c:gH W (H.upd a (.list ys)) (s.heap.update a (iR f)) a (.list ys):=⟨_,h,(sy _ b (d▸rfl)).trans (congrArg some d),g.stays st⟩;exact ⟨S.1.write e trivial sb uW c,bh.write S.1 _ e trivial sb uW c,st⟩
theorem Ey (S:b4 W H s) {f:Array aE->Array aE} {v:aE} {bg:ai} (t:Nat) (e:H a=some (.list xs)) (b:s.heap.get? a=some {cls:= .type "list",data:= .seq items n})
  (c:dQ W.G s.heap (f items).toList ys) (d:bt W.G s.heap v bg) (q:Q bg (H.upd a (.list ys))):dW W H s.heap Q v {s with heap:=s.heap.update a (iR f),toks:=t}:=
 have w:=Ks S e b c
 ⟨bg,_,S.heap w.1 t,w.2,d.stays w.3,q⟩
theorem UD (S:b4 W H s) {l:ak} {k:Int} {x:aE} {Q:Unit->a4->Prop} (e:H l=some (.list xs)) (h0:0<=k) (J:k.toNat<xs.length) (hz:xs.length<=lim) (g:bt W.G s.heap x v)
  (q:∀h',bW W (H.upd l (.list (xs.set k.toNat v))) h'->bh W cT H s.heap (H.upd l (.list (xs.set k.toNat v))) h'->Q () {s with heap:=h'}):
  aR (aX W.prog W.w) A (C8 (.ref l) (.int k t) x) Q E s:=by
 obtain ⟨items,n,a,c⟩:=ig S e;have b:s.TypeIs (.ref l) "list":=⟨_,a,rfl⟩;have d:k<2^63:=Sn h0▸Eo (bx J (bB hz (by decide)))
 have h:k.toNat<items.size:=by rw [(gT.isList a c).2];exact J
 unfold C8
 try with_reducible refine eb ?_
 first | refine aG (bl ?_) | skip
 refine aG (Sf b (by decide) ?_)
 refine aG (Sg (name:=bj "__setitem__") b ag2
  (wq ag2 b entry_list_setitem ?_ (args_list_setitem _ _ _)))
 show aR _ _ (Builtin.List.listSubscript? (.int k t)>>=_) _ _ s;refine aG (wpAny_listSubscript_int (fitsIndex_of h0 d) ?_);clear d;obtain ⟨j,rfl⟩:=Int.eq_ofNat_of_zero_le h0;have i:items[j]? =some items[j]:=uj (h:j<items.size);show aR _ _ ((seqItemAt l j>>=λ r=>pure (r.map (j,·)))>>=_) _ _ s;refine aG (aG (wpAny_seqItemAt a rfl (bl ?_)));rw [i];show aR _ _ (setSeqItemAt l j x>>=_) _ _ s;have w:=Ks (f:=λ m:Array aE=>m.setIfInBounds j x) S e a (ys:=xs.set j v) (by rw [Array.toList_setIfInBounds];exact c.set g j)
 refine aG (wpAny_setSeqItemAt a rfl ?_)
 first
  | exact aG (bl (bl ⟨.none,rfl,bl (q _ w.1 w.2)⟩))
  | exact bl ⟨.none,rfl,bl (q _ w.sim w.keep)⟩
theorem Ez (S:b4 W H s) {a:Shape} {es':List (ai×ai)} (e:H d=some (.dict sh es)) (b:n9 d s.heap h') (c:iW W.G h' d a es'):Kr W H s.heap (H.upd d (.dict a es')) h':=by
 obtain ⟨ents,n,D⟩:=S.1.1 _ _ e;have c:gH W (H.upd d (.dict a es')) h' d (.dict a es'):=c;exact ⟨S.1.write e trivial b uX c,bh.write S.1 _ e trivial b uX c,D.stays b⟩
theorem AH (a:A.units+20<=ee):A.units+1+9<ee:=bx (wt (by decide:1+9<20) _) a
theorem UE (S:b4 W H s) {cx x:aE} {k:ai} {Q:Unit->a4->Prop} (c:A.units+20<=ee) (e:H d=some (.dict sh es)) (ao:bt W.G s.heap cx k) (f:sh.has k) (hz:es.length<lim) (g:bt W.G s.heap x v)
  (q:∀h' t,bW W (H.upd d (.dict sh (hk es k v))) h'->bh W cT H s.heap (H.upd d (.dict sh (hk es k v))) h'->Q () {s with heap:=h',toks:=t}):
  aR (aX W.prog W.w) A (C8 (.ref d) cx x) Q E s:=by
 have b:=S.1.1 _ _ e;have a:=u1 b;unfold C8
 try with_reducible refine eb ?_
 refine aG (Sf a (by decide) ?_)
 refine aG (Sg (name:=bj "__setitem__") a ag3
  (wq ag3 a entry_dict_setitem ?_ (args_dict_setitem _ _ _)))
 show aR _ _ (Builtin.Dict.notOrdered "__setitem__" ⟨[.ref d,cx,x],[]⟩>>=_) _ _ s;refine aG (So a ?_);show aR _ _ (dictSet d cx x>>=_) _ _ s;exact aG (Ei (AH c) b ao f g hz λ h' t h aI=>have w:=Ez S e h aI;bl ⟨.none,rfl,bl (q _ _ w.1 w.2)⟩)
theorem UF (S:b4 W H s) {i:ai} {y x:aE} {Q:ag->Prop} {R:Unit->a4->Prop} (k:A.units+20<=ee) (f:bt W.G s.heap u o) (g:bt W.G s.heap y i) (j:bt W.G s.heap x v) (h:sR H v Q o i)
  (q:∀aa s',b4 W aa s'->bh W cT H s.heap aa s'.heap->Q aa->R () s'):aR (aX W.prog W.w) A (C8 u y x) R E s:=by
 induction h with
 | list c h0 J l d=>exact g.inv.elim λ t e=>(show u= .ref _ from f.inv)▸e▸UD S c h0 J l j λ h' a b=>q _ _ (S.heap a s.toks) b d
 | dict c h0 J d=>exact (show u= .ref _ from f.inv)▸UE S k c g h0 J j λ h' t a b=>q _ _ (S.heap a t) b d
noncomputable def isStr (s:aW):aE->Bool
 | .str t _=>t==s
 | _=>false
theorem UG (S:b4 W H s) {st:aW} (l:H x=some (.list xs)) (g:∀y∈xs,∃t,y= .str t) (hz:xs.length<=lim) (m:ai.str st∈xs)
  (q:Q (.int (xs.findIdx (λ y=>decide (y=ai.str st)))) H):aR (aX W.prog W.w) A (call (.builtin "list.index") [.ref x,.str st t]) (dW W H s.heap Q) E s:=by
 obtain ⟨items,n,d,f⟩:=ig S l;have h:=(gT.isList d f).2;have b:xs.findIdx (λ y=>decide (y=ai.str st))<xs.length:=List.findIdx_lt_length_of_exists ⟨_,m,decide_eq_true rfl⟩;have key:∀j (J:j<items.size) (c:j<xs.length),isStr st items[j]=decide (xs[j]=ai.str st):=by
  intro j J c;obtain ⟨v,i,k⟩:=f.get (c4 c);rw [jz,uj J] at i;obtain ⟨w,hw⟩:=g xs[j] (jd c);rw [hw] at k ⊢;obtain ⟨t',e⟩:=k.inv;rw [(dA i).trans e];exact uO (beq_iff_eq.trans ⟨congrArg _,ai.str.inj⟩)
 refine ui ag4 ⟨_,d,rfl⟩ PySem.F.entry_list_index (PySem.F.args_list_index_2 _ _)
  (list_indexAt x items n none #[] (.str st t) (isStr st) (xs.findIdx (λ y=>decide (y=ai.str st))) (h▸b) (wk (mf.mpr (bB (bF b) hz)) (by decide:((16000000:Nat):Int)<2^63 - 1)) ?_ ?_) ⟨d,λ y o=> ?_,hn S _ (.int _ _) q⟩
 ·rw [key _ (h▸b) b];exact List.findIdx_getElem (w:=b)
 ·intro j J c;rw [key _ _ (bX c b)];exact List.not_of_lt_findIdx c
 ·obtain ⟨a,p,r⟩:=f.mem y (Io.mpr o);obtain ⟨w,rfl⟩:=g a p;obtain ⟨t',rfl⟩:=r.inv;have e:isStr st (.str w t')=(w.cps.toList==st.cps.toList):=by rw [str_beq];rfl
  rw [e];exact (akg _ _ _ _).at _ _
noncomputable def k4.id:k4->String
 | .append=>"list.append" | .extend=>"list.extend" | .pop=>"list.pop" | .index=>"list.index" | .get=>"dict.get" | .k6=>"dict.setdefault"
theorem UH (S:b4 W H s) {m:k4} {as:aV} {vs:cH} (j:A.units+20<=ee) (g:dQ W.G s.heap vs as) (h:ng H Q x m as):aR (aX W.prog W.w) A (call (.builtin m.id) (.ref x::vs)) (dW W H s.heap Q) E s:=by
 induction h with
 | @append v xs a hz q=>
  obtain ⟨items,n,c,f⟩:=ig S a;obtain ⟨u,rfl,r⟩:=g.one;exact ui Sp ⟨_,c,rfl⟩ ag5 (ag6 _ _) (list_append x items n _ (k7 (by rw [(gT.isList c f).2];exact bF hz))) ⟨c,Ey S s.toks a c (by rw [CW];exact f.append (.cons r .nil)) .none q⟩
 | @extend y xs ys a I hz R q=>
  obtain ⟨items,n,c,f⟩:=ig S a;obtain ⟨w,K,z,B⟩:=ig S I;have o:items.size+w.size<=sx:=k7 (by rw [((gT.isList c f).2),((gT.isList z B).2)];exact bF hz)
  obtain ⟨u,rfl,r⟩:=g.one;obtain rfl:u= .ref y:=r.inv;exact ui ag7 ⟨_,c,rfl⟩ PySem.F.entry_list_extend (PySem.F.args_list_extend_2 _ _) (AutoSeq1.list_extend_list_list_0 x items n y w K (extend_door o) (bB (fJ _ _) o) (bF (a9 o (gj _)))) ⟨c,z,Ey S s.toks a c (by rw [Ij];exact f.append B) .none q⟩
 | @pop ys v a hz q=>
  obtain ⟨items,n,c,f⟩:=ig S a;cases g;have p:items.size=ys.length+1:=(gT.isList c f).2.trans (cI ..);obtain ⟨u,C,L⟩:=f.get (i:=ys.length) (b:=v) (by simp)
  rw [jz] at C;have D:items.size - 1=ys.length:=p▸rfl;refine ui ag8 ⟨_,c,rfl⟩ PySem.F.entry_list_pop (PySem.F.args_list_pop_1 _) (MeetsSeq.list_pop_last x items n u (D▸C) (k7 (p▸hz))) ⟨c,Ey S s.toks a c ?_ L q⟩;have F:=f.take ys.length;rw [Sq] at F;show dQ W.G s.heap (items.eraseIdxIfInBounds (items.size - 1)).toList ys;rw [Array.toList_eraseIdxIfInBounds,D,List.eraseIdx_eq_take_drop_succ,ag9 (by rw [pq,p];exact dn _),h9];exact F
 | @index st xs a J l M q=>
  obtain ⟨u,rfl,r⟩:=g.one;exact r.inv.elim λ t e=>e▸UG S a J l M q
 | @get k d sh es a J q=>
  have G:=S.1.1 _ _ a;obtain ⟨T,U,rfl,r,N⟩:=g.two;refine wq aha (u1 G) PySem.F.entry_dict_get ?_ (PySem.F.args_dict_get_3 _ _ _);show aR _ _ (C2 x _>>=_) _ _ s;refine aG (Eh (AH j) G r J (λ O t=> ?_) λ u bg P j t=>bl ⟨_,rfl,hn S t j ((show (cU es k).getD d=bg from congrArg (Sr · d) P)▸q)⟩);show aR _ _ (Builtin.Dict.missed x _>>=_) _ _ _;exact aG (wpAny_missed_other (ox S.1 a) (bl ⟨_,rfl,hn S t N ((show (cU es k).getD d=d from congrArg (Sr · d) O)▸q)⟩))
 | @J5 k d sh es v a J l et q=>exact Kv S j a J l g (λ bg e=>dC et e▸q) λ e=>no (e.symm.trans et)
 | @J6 k d sh es a J l et q=>exact Kv S j a J l g (λ bg e=>no (et.symm.trans e)) λ _=>q
where
 Kv {W:a0} {H:ag} {s:a4} {A:c8} {E:cA} {Q:KE} (S:b4 W H s) {x:ak} {k d:ai} {sh:Shape} {es:List (ai×ai)} {vs:cH} (bc:A.units+20<=ee) (ay:H x=some (.dict sh es)) (J:sh.has k) (af:es.length<lim) (aB:dQ W.G s.heap vs [k,d])
   (hU:∀bg,cU es k=some bg->Q bg H) (gU:cU es k=none->Q d (H.upd x (.dict sh (es++[(k,d)])))):aR (aX W.prog W.w) A (call (.builtin "dict.setdefault") (.ref x::vs)) (dW W H s.heap Q) E s:=by
  have ft:=S.1.1 _ _ ay;have cv:=u1 ft;obtain ⟨kV,iU,rfl,r,bC⟩:=aB.two;refine wq ahb cv PySem.F.entry_dict_setdefault ?_ (PySem.F.args_dict_setdefault_3 _ _ _);unfold Builtin.«dict.setdefault»;refine aG ?_;unfold Builtin.Dict.keyAndDefault;refine aG (So cv ?_);show aR _ _ (pure (x,_,some _)) _ _ s;refine bl ?_;show aR _ _ (if (x==zr)=true then _ else (Sb x _ _>>=_)) _ _ s
  rw [if_neg (by rw [ox S.1 ay];exact fS)]
  exact aG (Un (AH bc) ft r J bC af (λ u bg e bc t=>bl ⟨_,rfl,hn S t bc (hU bg e)⟩) λ e h' t aC aI=>have w:=Ez S ay aC aI;bl ⟨_,rfl,_,_,S.heap w.1 t,w.2,bC.stays w.3,gU e⟩)
end
end
section
theorem dk.ofPlaces {α β:Type} {R:α->β->Prop}:∀{vs:List α} {as:List β},vs.length=as.length->(∀(j:Nat) v a,vs[j]? =some v->as[j]? =some a->R v a)->dk R vs as:=by
 intro vs
 induction vs with
 | nil=>intro as e _;exact wi e.symm▸.nil
 | cons v vs ih=>intro as e k;cases as with
  | nil=>exact (by cases e)
  | cons a as=>exact .cons (k 0 v a rfl rfl) (ih (wx e) λ j=>k (j+1))
section
variable {W:a0} {H:ag} {s:a4} {A:c8} {E:cA} {Q:KE}
theorem Kw {h0:a3} {b:Array aE} (x:dk (sY G h0) kvs es)
  (f:b.size=kvs.length) (g:∀(j:Nat) v,b[j]? =some v->∃k x,kvs[j]? =some (k,x)/\ (mg prog w).is k v=true):dQ G h b.toList (es.map (·.1)):=by
 refine dk.ofPlaces (f.trans (x.length.trans (cz _).symm)) λ j v a i c=> ?_;rw [ff] at c;obtain ⟨e,l,rfl⟩:=iv.mp c;obtain ⟨⟨k,u⟩,m,n⟩:=x.get l;obtain ⟨o,x,p,d⟩:=g j v (jz▸i);obtain rfl:k=o:=congrArg m8 (dC m p);rw [n.1];cases v<;>first | exact of_decide_eq_true (sW.symm.trans d)▸.int _ _ | exact absurd d fS
theorem UJ (S:b4 W H s) (b:A.handled=none) (e:H d=some (.dict .int es)) (hz:es.length<=lim) (q:∀c,H c=none->Q (.ref c) (H.upd c (.list (es.map (·.1))))):
  aR (aX W.prog W.w) A (call (.type "list") [.ref d]) (dW W H s.heap Q) E s:=by
 obtain ⟨kvs,f,_,x,_⟩:=sZ (prog:=W.prog) (w:=W.w) (S.1.1 _ _ e);exact kdl_call (kdl_dict (knd:=mg W.prog W.w) (kvs:=kvs) (ep:=es.length) (ox S.1 e)) b f (k7 (x.length▸hz)) λ h' tk i j g h a=>pJ S tk (gA _) g h (Kw x a.1 a.2) q
theorem UK (S:b4 W H s) (e:A.handled=none) {x:aW} (hz:x.length<=1000) (q:∀c,H c=none->Q (.ref c) (H.upd c (.list (x.cps.toList.map λ n=> .str ⟨#[n]⟩)))):
  aR (aX W.prog W.w) A (call (.type "list") [.str x t]) (dW W H s.heap Q) E s:=by
 refine call_list_str e x t (λ h' tk i k ao f b=> ?_) (bB hz (by rw [jX];decide))
 refine pJ S tk (gA _) ao f (dk.ofPlaces (b.1.trans (cz _).symm) λ j v a g d=> ?_) q;obtain ⟨c,u,h,rfl⟩:=b.2 j v (jz▸g);rw [ff,jz,h] at d;exact dA d▸.str _ _
theorem UL (S:b4 W H s) (e:H x=some (.list vs)) (hz:vs.length<=lim) (q:∀c,H c=none->Q (.ref c) (H.upd c (.list vs))):
  aR (aX W.prog W.w) A (call (.type "list") [.ref x]) (dW W H s.heap Q) E s:=by
 obtain ⟨items,n,a,b⟩:=ig S e;exact call_list_seq x (.inl rfl) a rfl rfl (λ h' f ao d=>pJ S s.toks (gA _) ao d b q) (k7 ((gT.isList a b).2▸hz))
theorem UM (S:b4 W H s) (b:bt W.G s.heap u (.tup vs)) (hz:vs.length<=lim) (q:∀c,H c=none->Q (.ref c) (H.upd c (.list vs))):
  aR (aX W.prog W.w) A (call (.type "list") [u]) (dW W H s.heap Q) E s:=by
 obtain ⟨x,o,items,n,rfl,d,aI,_,hd,a⟩:=b.inv;exact call_list_seq x (.inr rfl) d aI hd (λ h' f ao e=>pJ S s.toks (gA _) ao e a q) (k7 (bB (bE a.length) hz))
theorem UN (S:b4 W H s) (e:H x=some (.list vs)) (hz:vs.length<=lim) (q:Q (.tup vs) H):
  aR (aX W.prog W.w) A (call (.type "tuple") [.ref x]) (dW W H s.heap Q) E s:=by
 obtain ⟨items,n,c,b⟩:=ig S e;exact call_tuple_list (gT.isList c b).1 (λ h' ao=>q3 S s.toks (λ a o e=>dP _ (ao a o e)) (.tup (hc _ rfl) ⟨rfl,rfl⟩ rfl (b.stays (.of_keep λ a o e=>dP _ (ao a o e)))) q) (k7 ((gT.isList c b).2▸hz))
end
end
section
def oy (key:Nat->Int) (n:Nat) (i j:Nat) (C:Bool->a4->Prop) (s:a4):Prop:=i<n∧j<n∧C (decide (key i<key j)) s
theorem UO {α:Type} {cmp a:Nat->Nat->(Bool->a4->Prop)->a4->Prop} (k:∀i j C s,cmp i j C s->a i j C s) (d:∀i j (C c:Bool->a4->Prop) s,(∀b s,C b s->c b s)->a i j C s->a i j c s):
  ∀(t:KasT α) {Q:α->a4->Prop} {s:a4},t.kasWp cmp Q s->t.kasWp a Q s:=by
 intro t
 induction t with
 | ret=>exact λ h=>h
 | ask i j f ih=>exact λ h=>d _ _ _ _ _ (λ b s' h'=>ih b h') (k _ _ _ _ h)
section
variable {key:Nat->Int} {n:Nat} {s:a4}
def Arr (n:Nat) (p:Array Nat):Prop:=p.Perm (cg n).toArray
noncomputable def ej (key:Nat->Int) (p:Array Nat) (i:Nat):Int:=key (p.getD i 0)
def nq (key:Nat->Int) (p:Array Nat) (m:Nat):Prop:=∀i j,i<j->j<m->ej key p i<ej key p j
theorem Arr.size (h:Arr n p):p.size=n:=by rw [Array.Perm.size_eq h];simp
theorem Arr.lt (h:Arr n p) (a:i<n):p.getD i 0<n:=by
 have b:i<p.size:=by rw [h.size];exact a
 rw [(by simp [Ss,b]:p.getD i 0=p[i])]
 simpa using ((Iy.mp h).mem_iff.mp (by simp):p[i]∈(cg n).toArray.toList)
theorem Arr.inj (h:Arr n p) (b:i<n) (c:j<n) (e:p.getD i 0=p.getD j 0):i=j:=by
 have a:=h.size;rw [(by simp [Ss,a,b]:p.getD i 0=p.toList[i]'(by rw [pq];exact bx b (bE a.symm))),(by simp [Ss,a,c]:p.getD j 0=p.toList[j]'(by rw [pq];exact bx c (bE a.symm)))] at e
 exact (qF ((Iy.mp h).nodup_iff.mpr (by simpa using C9):p.toList.Nodup)).mp e
theorem AJ {q:Array Nat} {i:Nat} (h:p[i]? =q[j]?):ej key p i=ej key q j:=by
 unfold ej;rw [um,um,h]
variable (ao:∀i j,i<n->j<n->key i=key j->i=j)
include ao
theorem Arr.ne (h:Arr n p) {i:Nat} (a:i<n) (b:j<n) (e:i≠j):ej key p i≠ej key p j:=λ q=>e (h.inj a b (ao _ _ (h.lt a) (h.lt b) q))
def nr (key:Nat->Int) (p:Array Nat) (m:Nat):Prop:=∀i,i+1<m->ej key p i<ej key p (i+1)
def s8 (key:Nat->Int) (p:Array Nat) (m:Nat):Prop:=∀i,i+1<m->ej key p (i+1)<ej key p i
omit ao in
theorem nr.asc (h:nr key p m):nq key p m:=λ i j=>by
 induction j with
 | zero=>exact λ a=>absurd a (wy _)
 | succ j ih=>exact λ a b=>(uo (iw a)).elim (λ c=>C6 (ih c (ob b)) (h j b)) λ c=>c▸h j b
omit ao in
theorem nr.more {k:Nat} (h:nr key p (k+1)) (c:ej key p k<ej key p (k+1)):nr key p (k+2):=λ i a=>(uo (iw a)).elim (h i) λ e=>wx e▸c
omit ao in
theorem s8.more {k:Nat} (h:s8 key p (k+1)) (c:ej key p (k+1)<ej key p k):s8 key p (k+2):=λ i a=>(uo (iw a)).elim (h i) λ e=>wx e▸c
theorem EB (h:Arr n p) (a:i<n) (b:j<n) (e:i≠j) (c:¬ej key p i<ej key p j):ej key p j<ej key p i:=Int.lt_iff_le_and_ne.mpr ⟨zx.mp c,h.ne ao b a (hy e)⟩
omit ao in
theorem EC {k f:Nat} (h:k+(f+1)<=n):k<n:=bx (Su (m9 f)) h
omit ao in
theorem Kx {k f:Nat} (h:k+(f+1)<=n):k+1+f<=n:=bB (bE (qG k 1 f)) h
theorem Ky (h:Arr n p) {Q:Nat->a4->Prop}:∀(f k:Nat),k+1+f<=n->nr key p (k+1)->(∀m,k<=m->m+1<=k+1+f->nr key p (m+1)->(m+1=k+1+f∨ej key p (m+1)<ej key p m)->Q (m+1) s)->
  (kas_asc p f (k+1)).kasWp (oy key n) Q s:=by
 intro f
 induction f with
 | zero=>
  exact λ k _ g q=>q k (dn _) (dn _) g (.inl rfl)
 | succ f ih=>
  intro k j g q;have i:=EC j;refine ⟨h.lt i,h.lt (ob i),?_⟩
  by_cases c:key (p.getD (k+1) 0)<key (p.getD k 0)
  ·show uq _ (if decide (key (p.getD (k+1) 0)<key (p.getD k 0))=true then _ else _) _ _
   rw [decide_eq_true c];exact q k (dn _) (fJ _ _) g (.inr c)
  ·show uq _ (if decide (key (p.getD (k+1) 0)<key (p.getD k 0))=true then _ else _) _ _
   rw [decide_eq_false c];have e:k+1+1+f=k+1+(f+1):=qG _ 1 f;exact ih (k+1) (Kx j) (g.more (EB ao h i (ob i) (Iz k) c)) λ m a b c d=>q m (Sv a) (e▸b) c (e▸d)
theorem UQ (h:Arr n p) {Q:Array Nat×Nat×Nat->a4->Prop}:∀(f k:Nat),k+1+f<=n->s8 key p (k+1)->(∀m,k<=m->m+1<=k+1+f->s8 key p (m+1)->Q (p,m+1,0) s)->
  (kas_desc f p (k+1) 0).kasWp (oy key n) Q s:=by
 intro f
 induction f with
 | zero=>
  exact λ k _ e q=>q k (dn _) (dn _) e
 | succ f ih=>
  intro k g e q;have d:=EC g;refine ⟨h.lt d,h.lt (ob d),?_⟩
  by_cases c:key (p.getD (k+1) 0)<key (p.getD k 0)
  ·show uq _ (if decide (key (p.getD (k+1) 0)<key (p.getD k 0))=true then _ else _) _ _
   rw [decide_eq_true c];exact ih (k+1) (Kx g) (e.more c) λ m a b c=>q m (Sv a) ((qG _ 1 f:k+1+1+f=k+1+(f+1))▸b) c
  ·show uq _ (if decide (key (p.getD (k+1) 0)<key (p.getD k 0))=true then _ else _) _ _
   rw [decide_eq_false c];refine ⟨h.lt (ob d),h.lt d,?_⟩;show uq _ (if decide (key (p.getD k 0)<key (p.getD (k+1) 0))=true then _ else _) _ _
   rw [decide_eq_true (show key (p.getD k 0)<key (p.getD (k+1) 0) from EB ao h d (ob d) (Iz k) c)];exact q k (dn _) (fJ _ _) e
omit ao in
theorem Kz (h:i+1<m):m - 1 - i=m - 1 - (i+1)+1:=by rw [Nat.sub_add_eq (m - 1) i 1,ef (Nat.sub_pos_of_lt (Nat.lt_sub_of_add_lt h))]
omit ao in
theorem UR (h:Arr n p) (b:m<=n) (c:s8 key p m):nr key (IA p 0 m) m∧Arr n (IA p 0 m):=by
 refine ⟨λ i a=> ?_,(mirror_perm _ _ _ _).trans h⟩;have e:∀k,k<m->ej key (IA p 0 m) k=ej key p (m - 1 - k):=λ k ao=>by
  refine AJ ?_;unfold IA;rw [getElem?_mirror_all (i:=0) (by rw [h.size];exact b),if_pos ⟨dz _,ao⟩]
  congr 1
  exact dg (uK (.l .p (.a .q .r)<| .l .t (.s .p)<| .l (.a .u .r) .z<| .l (.s .z) (.a (.k 0) .t)<| .g .u .q) rfl (sb _ _) (sb _ _) (bE (ef (ci (.l (.s .p) .q<| .l (.a (.k 0) .q) (.s .r)<| .g .p .r) rfl ao (sb _ _)))) (bE (ef (bD (.l (.s (.s .p)) .q<| .g .o (.a (.k 0) .q)) rfl a)))) (uK (.l .p (.a .q .r)<| .l (.a (.k 0) .t) (.s .p)<| .l (.a .u .r) .z<| .l (.s .z) .t<| .g .u .q) rfl (sb _ _) (sb _ _) (bE (ef (ci (.l (.s .p) .q<| .l .q (.s .r)<| .g .p .r) rfl ao (sb _ _)))) (bE (ef (bD (.l (.s (.s .p)) .q<| .g .o .q) rfl a))))
 rw [e i (ob a),e (i+1) a,Kz a];exact c _ (Kz a▸a9 (ur _ _) (Nat.sub_lt (a9 (dz _) a) (m9 0)))
theorem US (h:Arr n p) {Q:Nat×Array Nat->a4->Prop} (f:m+1<=n) (g:s8 key p (m+1)) (q:∀b c,Arr n c->1<=b->b<=n->nr key c b->Q (b,c) s):(kas_tail3 (m+1) n p).kasWp (oy key n) Q s:=by
 have a:=UR h f g;unfold kas_tail3;rw [Dc];have e:m+1+(n - (m+1))<=n:=bE (IB f);exact Ky ao a.2 (n - (m+1)) m e a.1 λ b _ d u _=>q (b+1) _ a.2 (m9 _) (bB d e) u
theorem UT (h:Arr n p) {Q:Nat×Array Nat->a4->Prop} (J:1<=n) (q:∀a f,Arr n f->1<=a->a<=n->nr key f a->Q (a,f) s):(kas_count n p).kasWp (oy key n) Q s:=by
 have g:0+1+(n - 1)=n:=IB J;unfold kas_count;rw [Dc];refine Ky ao h (n - 1) 0 (bE g) (λ i j=>absurd j (wz (uf 1 i))) λ m _ b c d=> ?_;have b:m+1<=n:=g▸b
 by_cases e:m+1=n
 ·rw [if_pos (beq_iff_eq.mpr e)];exact q (m+1) p h (m9 _) b c
 ·rw [if_neg (λ z=>e (beq_iff_eq.mp z))];cases m with
  | succ m=>
   rw [if_pos (Sw (m9 m))];refine ⟨h.lt J,h.lt (uu b),?_⟩;show uq _ (if decide (key (p.getD 0 0)<key (p.getD (m+1) 0))=true then _ else _) _ _
   rw [decide_eq_true (show key (p.getD 0 0)<key (p.getD (m+1) 0) from c.asc 0 (m+1) (m9 m) (gj _))];exact q _ p h (m9 _) b c
  | zero=>
   rw [if_neg (iP 1)];unfold kas_descPart;rw [Dc];have k:1+1+(n - (1+1))<=n:=bE (IB (sA J e:1+1<=n));refine UQ ao h (n - (1+1)) 1 k (λ i j=> ?_) λ a _ b c=> ?_
   ·obtain rfl:i=0:=Nat.le_zero.mp (iw (sC j));exact (d.resolve_left λ d=>e (d.trans g):ej key p 1<ej key p 0)
   ·rw [if_neg (iP 0)];exact US ao h (bB b k) c q
omit ao in
theorem UU {l:Nat} (h:l<r):l<=(l+r)/2:=(Nat.le_div_iff_mul_le (by decide)).mpr (Nat.mul_two l▸pl (bF h) l)
omit ao in
theorem UV {l:Nat} (h:l<r):(l+r)/2<r:=(Nat.div_lt_iff_lt_mul (by decide)).mpr (Nat.mul_two r▸Nat.add_lt_add_right h r)
theorem UW (h:Arr n p) {Q:Nat->a4->Prop} {k:Nat} (o:k<n) (x:nq key p k):∀(f l r:Nat),r - l<=f->l<=r->r<=k->(∀i,i<l->ej key p i<ej key p k)->(∀i,r<=i->i<k->ej key p k<ej key p i)->
  (∀l,l<=k->(∀i,i<l->ej key p i<ej key p k)->(∀i,l<=i->i<k->ej key p k<ej key p i)->Q l s)->(kas_place p k f l r).kasWp (oy key n) Q s:=by
 intro f
 induction f with
 | zero=>
  exact λ l r j t g a b q=>q l (bB t g) a λ i d=>b i (bB (Nat.le_of_sub_eq_zero (Nat.le_zero.mp j)) d)
 | succ f ih=>
  intro l r j t g a b q;show uq _ (if l≥r then _ else _) _ _
  by_cases m:l≥r
  ·rw [if_pos m];exact q l (bB t g) a λ i d=>b i (bB m d)
  ·rw [if_neg m];have u:=IC m;have v:=UU u;have w:=UV u;have mk:=bx w g;have y:=bX mk o;refine ⟨h.lt o,h.lt y,?_⟩
   by_cases c:key (p.getD k 0)<key (p.getD ((l+r)/2) 0)
   ·rw [decide_eq_true c];exact ih l ((l+r)/2) (iw (bx (Nat.sub_lt_sub_right v w) j)) v (bF mk) a (λ i d B=>(uo d).elim (λ z=>C6 c (x _ _ z B)) λ e=>e▸c) q
   ·rw [decide_eq_false c];have A:=EB ao h o y (m7 mk) c;exact ih ((l+r)/2+1) r (iw (bx (Sx u (Dd v)) j)) w g (λ i d=>(uo (iw d)).elim (λ z=>C6 (x _ _ z mk) A) λ e=>e.symm▸A) b q
omit ao in
theorem UX {k l:Nat} (o:k<p.size) (e:l<=k) (f:nq key p k) (a:∀i,i<l->ej key p i<ej key p k) (b:∀i,l<=i->i<k->ej key p k<ej key p i):nr key (bubble p k (k - l)) (k+1):=by
 have g:=λ x=>getElem?_bubble o (k - l) (ur k l) x;rw [Nat.sub_sub_self e] at g;have d:∀x,x<l->ej key (bubble p k (k - l)) x=ej key p x:=λ x j=>AJ (by rw [g,if_neg (e6 j),if_neg λ z=>Nat.lt_asymm j z.1])
 have m:ej key (bubble p k (k - l)) l=ej key p k:=AJ (by rw [g,if_pos rfl])
 have n:∀x,l<=x->x<k->ej key (bubble p k (k - l)) (x+1)=ej key p x:=λ x J q=>AJ (by rw [g,if_neg (m7 (Dd J)),if_pos ⟨Dd J,q⟩];rfl)
 intro i r;have c:=sC r;rcases ahc (i+1) l with h | h | h
 ·rw [d _ h,d _ (ob h)];exact f _ _ (gj i) (bx h e)
 ·rw [h,m,d _ (h▸gj i)];exact a i (h▸gj i)
 ·have h:=iw h;rw [n i h c];rcases uo h with h' | h'
  ·cases i with
   | zero=>exact absurd h' (wy _)
   | succ i=>rw [n i (iw h') (ob c)];exact f _ _ (gj i) c
  ·rw [<- h',m];exact b l (dn _) (h'.symm▸c)
theorem UY {Q:Array Nat->a4->Prop}:∀(f k:Nat) (p:Array Nat),Arr n p->k+f=n->nq key p k->(∀d,Arr n d->nq key d n->Q d s)->(kas_bin f p k).kasWp (oy key n) Q s:=by
 intro f
 induction f with
 | zero=>
  exact λ k p h e c q=>q p h (e▸c)
 | succ f ih=>
  intro k p h e c q;have g:k<n:=EC (bE e);show uq _ ((kas_place p k k 0 k).bind _) _ _;rw [Dc];exact UW ao h g c k 0 k (ur _ _) (dz _) (dn _) (λ i j=>absurd j (wy i)) (λ i J m=>absurd m (wz J)) λ l o a b=>
   ih (k+1) _ ((bubble_perm _ _ _).trans h) ((qG k 1 f).trans e) (UX (h.size.symm▸g) o c a b).asc q
theorem UZ {Q:Array Nat->a4->Prop} (J:1<=n) (q:∀a,Arr n a->nq key a n->Q a s):(kas_sort n).kasWp (oy key n) Q s:=by
 unfold kas_sort;rw [Dc];refine UT ao (ahd _) J λ m p b J c d=> ?_;dsimp only
 by_cases e:m<n
 ·rw [if_pos e,Sy J];exact UY ao _ _ p b (IB c) d.asc q
 ·rw [if_neg e];exact q p b (dg c (fD e)▸d.asc)
end
end
section
section
variable {prog:gi} {w:fp} {A:c8} {E:cA} {s:a4}
def EF (prog:gi) (w:fp) (A:c8) (key:Nat->Int) (vs:cH) (s:a4):Prop:=
 ∃κ,(∀Q:SortKind->a4->Prop,Q κ s->aR (aX prog w) A (keyKind' vs.toArray) Q (λ _ _=>False) s)∧
  ∀(i j:Nat) (C:Bool->a4->Prop),i<vs.length->j<vs.length->C (decide (key i<key j)) s->aR (aX prog w) A (keyLt' κ (vs.getD i mh) (vs.getD j mh)) C (λ _ _=>False) s
theorem U0 {vs:cH} {key:Nat->Int} {P:PySem.Fin->a4->Prop} (m:s.heap.get? a=some (hg "list" vs.toArray n)) (g:vs.length<64)
  (ao:∀i j,i<vs.length->j<vs.length->key i=key j->i=j)
  (H:2<=vs.length->∀h' t,(∀b o,b≠a->s.heap.get? b=some o->h'.get? b=some o)->EF prog w A key vs {s with heap:=h',toks:=t})
  (h:∀p h' e,Arr vs.length p->nq key p vs.length->(∀b o,b≠a->s.heap.get? b=some o->h'.get? b=some o)->h'.get? a=some (hg "list" (ID (p.toList.map λ i=>vs.getD i mh)) e)->P (.done (.ret .none)) {s with heap:=h'}):
  aR (aX prog w) A (Builtin.«list.sort» ⟨[.ref a],[]⟩) P E s:=by
 have Y:a<s.heap.objs.size:=iu m;obtain ⟨u,y⟩:∃u,(s.heap.update a (iR λ _=>(#[]:Array aE))).get? a=some (hg "list" #[] u):=⟨_,Sz m λ _=> #[]⟩;have z:∀b o,b≠a->s.heap.get? b=some o->(((s.heap.update a (iR λ _=>(#[]:Array aE))).push (hg "tuple" vs.toArray 0)).push (hg "list" #[] 0)).get? b=some o:=
  λ b o r e=>dP _ (dP _ (((qE s.heap a (iR λ _=>(#[]:Array aE))).2 b r).trans e))
 have d:(((s.heap.update a (iR λ _=>(#[]:Array aE))).push (hg "tuple" vs.toArray 0)).push (hg "list" #[] 0)).get? a=some (hg "list" #[] u):=dP _ (dP _ y);rw [list_sort_plain];refine aG (listItems_at m rfl ?_);refine aG (SA m rfl ?_ (by rw [wA,jX];exact bF (bX g (by decide))) (dz _))
 refine aG (SD y rfl ?_);refine aG (SE ?_ (by show vs.length<=_;rw [jX];exact bF (bX g (by decide))))
 refine aG (IE ?_ (dz _));refine eb ?_;show aR (aX prog w) A _ P E {s with heap:=((s.heap.update a (iR λ _=>(#[]:Array aE))).push (hg "tuple" vs.toArray 0)).push (hg "list" #[] 0)}
 dsimp only;have fin:∀(k:Array aE) (p:Array Nat),k=ID (p.toList.map λ i=>vs.getD i mh)->Arr vs.length p->nq key p vs.length->∀e,(((((s.heap.update a (iR λ _=>(#[]:Array aE))).push (hg "tuple" vs.toArray 0)).push (hg "list" #[] 0)).update a (iR λ _=>k)).get? a=some (hg "list" k e))->
   P (.done (.ret .none)) {s with heap:=(((s.heap.update a (iR λ _=>(#[]:Array aE))).push (hg "tuple" vs.toArray 0)).push (hg "list" #[] 0)).update a (iR λ _=>k)}:=by
  rintro k p rfl l v e I;exact h p _ e l v (λ b o r q=>(wB _ _ (hy r)).trans (z b o r q)) I
 by_cases c:vs.toArray.size<2
 ·rw [if_pos c,if_pos c];refine aG (bl ?_);rw [StateT.run_pure];refine aG (bl ?_);dsimp only;refine aG (SD d rfl ?_);have K:(Array.map (λ x:Keyed=>x.2) (vs.toArray.zip vs.toArray))=ID ((cg vs.length).toArray.toList.map λ i=>vs.getD i mh):=by
   apply SF.mp;refine uv (by simp) λ i J B=> ?_
   simp [(by simpa using J:i<vs.length)]
  refine aG (SA d rfl ?_ (dz _) (by rw [SG];show (vs.toArray.zip vs.toArray).size<=_;rw [jX];simp;exact bF (bX g (by decide))))
  simp only [bne_self_eq_false,zA,if_false];refine bl (fin _ (cg vs.length).toArray K (ahd _) (λ i j L M=> ?_) _ (Sz d _));rw [wA] at c;exact (fR 0 (ci (.l (.s .p) (.k 2)<| .l (.s .q) .r<| .l (.s .r) .p<| .g .o (.k 0) (n:=0)) rfl c L M)).elim
 ·rw [if_neg c,if_neg c];rw [wA] at c;obtain ⟨κ,aD⟩:=H (fD c) _ s.toks z;refine aG (cL (aD.1 _ ?_) (λ _ _ x=>x) λ _ _ x=>x.elim);refine aG (cL (kat_run (A:=A) (κ:=κ) (ks:=vs) (E:=E) (G:=λ p s'=>s'={s with heap:=((s.heap.update a (iR λ _=>(#[]:Array aE))).push (hg "tuple" vs.toArray 0)).push (hg "list" #[] 0)}∧Arr vs.length p∧nq key p vs.length)
   (Q:=λ st' s'=>∃p:Array Nat,p.size=vs.length∧arrOf st'=p.map (kas_item (vs.toArray.zip vs.toArray))∧failedOf st'=none∧s'={s with heap:=((s.heap.update a (iR λ _=>(#[]:Array aE))).push (hg "tuple" vs.toArray 0)).push (hg "list" #[] 0)}∧Arr vs.length p∧nq key p vs.length)
   (vs:=vs) rfl (fD c) g (λ D st' s' cM N O R=>⟨D,cM,N,O,R⟩) ?_) ?_ λ _ _ e=>e)
  ·refine UO (cmp:=λ i j C s'=>s'={s with heap:=((s.heap.update a (iR λ _=>(#[]:Array aE))).push (hg "tuple" vs.toArray 0)).push (hg "list" #[] 0)}∧oy key vs.length i j C s') ?_ ?_ _ ?_
   ·rintro i j C s' ⟨rfl,J,B,S⟩;exact aD.2 i j C J B S
   ·exact λ i j C Z s' aI hw=>cL hw aI λ _ _ x=>x
   ·have T:∀{α:Type} (t:KasT α) {Q:α->a4->Prop} {s' F:a4},s'=F->t.kasWp (oy key vs.length) Q s'->t.kasWp (λ i j C s'=>s'=F∧oy key vs.length i j C s') Q s':=by
     intro α t
     induction t with
     | ret b=>exact λ _ h=>h
     | ask i j f ih=>exact λ e h=>⟨e,h.1,h.2.1,ih _ e h.2.2⟩
    exact T _ rfl (UZ ao (bF (bx (by decide) (fD c))) λ D l v=>⟨rfl,l,v⟩)
  ·rintro ⟨⟨⟩,st'⟩ s' ⟨p,l,U,V,rfl,W,X⟩;dsimp only;refine aG (SD d rfl ?_);rw [(kat_snds rfl U)];refine aG (SA d rfl ?_ (dz _) (bB (bE (by rw [wA,cz,pq,l]:(ID (p.toList.map λ i=>vs.getD i mh)).size=vs.length)) (by rw [jX];exact bF (bX g (by decide)))))
   rw [V];simp only [bne_self_eq_false,zA,if_false];exact bl (fin _ p rfl W X _ (Sz d _))
end
end
section
section
variable {G:aP->aE} {h:a3} {vs:cH} {as:aV}
theorem tb {α:Type} {l:List α} {a d:α} (h:l[i]? =some a):l.getD i d=a:=(eS ..).trans (congrArg (Sr · d) h)
theorem at_ (x:dQ G h vs as) (a:i<as.length):bt G h (vs.getD i .none) (as.getD i .none)∧as.getD i .none∈as:=by
 obtain ⟨v,e,r⟩:=x.get (c4 a);rw [tb e,tb (c4 a)];exact ⟨r,jd a⟩
theorem U3 (x:dQ G h vs as):∀{p:aw},(∀i∈p,i<as.length)->dQ G h (p.map λ i=>vs.getD i mh) (p.map λ i=>as.getD i ai.none):=by
 intro p
 induction p with
 | nil=>exact λ _=> .nil
 | cons i p ih=>exact λ k=> .cons (at_ x (k i (.head _))).1 (ih λ j a=>k j (.tail _ a))
theorem KC (i:Nat):(as.map cx).getD i 0=cx (as.getD i ai.none):=by
 rw [eS,eS,ff];cases as[i]? <;>rfl
theorem EG (b:(as.map cx).Nodup) (c:i<as.length) (d:j<as.length) (e:cx (as.getD i ai.none)=cx (as.getD j ai.none)):i=j:=by
 have J:i<(as.map cx).length:=(cz _).symm▸c;have a:j<(as.map cx).length:=(cz _).symm▸d;refine (qF (h₀:=J) (h₁:=a) b).mp ?_;rw [<- KC,<- KC,tb (c4 J),tb (c4 a)] at e;exact e
theorem U4 {α:Type} (l:List α) (d:α):(cg l.length).map (λ i=>l.getD i d)=l:=
 uv (by rw [cz,gy]) λ i J a=>by rw [sD,De];exact tb (c4 a)
theorem U5 (a b c:ai) (J:gB a b=true) (d:gB b c=true):gB a c=true:=decide_eq_true (C0 (of_decide_eq_true J) (of_decide_eq_true d))
theorem U6 (a b:ai):(gB a b||gB b a)=true:=Sa.mpr ((Int.le_total (cx a) (cx b)).imp decide_eq_true decide_eq_true)
theorem U7 (l:(as.map cx).Nodup) (g:Arr as.length p) (m:nq (λ i=>cx (as.getD i ai.none)) p as.length):p.toList.map (λ i=>as.getD i ai.none)=as.mergeSort gB:=by
 have h:List.Perm (p.toList.map λ i=>as.getD i ai.none) as:=by
  have:=(Iy.mp g).map λ i=>as.getD i ai.none;rw [U4] at this;exact this
 refine List.Perm.eq_of_pairwise (le:=λ a b=>gB a b=true) (λ a b n o J q=> ?_) ?_ (IF U5 U6 _) (h.trans (Df _ _).symm)
 ·obtain ⟨i,f,rfl⟩:=mi (h.mem_iff.mp n);obtain ⟨j,c,rfl⟩:=mi ((Df _ _).mem_iff.mp o);have e:=Int.le_antisymm (of_decide_eq_true J) (of_decide_eq_true q);rw [<- tb (d:=ai.none) (c4 f),<- tb (d:=ai.none) (c4 c)] at e ⊢;rw [EG l f c e]
 ·refine SH.mpr (ahe.mpr λ i j f c r=>decide_eq_true (IG ?_));have:=m i j r (g.size▸c);unfold ej at this;have e:∀k (ao:k<p.toList.length),p.getD k 0=p.toList[k]:=λ k ao=>by rw [um,<- jz,c4 ao];rfl
  rw [e i f,e j c] at this;exact this
theorem ints_of (x:dQ G h vs as):(∀a∈as,∃i,a= .int i)->IntsAre vs (as.map cx):=by
 induction x with
 | nil=>exact λ _=> .nil
 | cons r _ ih=>
  intro k;obtain ⟨i,rfl⟩:=k _ (.head _);obtain ⟨t,rfl⟩:=r.inv;exact .cons i t (ih λ b c=>k b (.tail _ c))
inductive U8 (h:a3) (v:aE) (i m:Int):Prop
 | mk (a:ak) (o:dq) (n:Nat) (t u:Tok) (e:v= .ref a) (aH:h.get? a=some o) (aI:o.cls= .type "tuple") (hd:o.data= .seq #[.int i t,.int m u] n)
theorem EH {v:aE} {i m:Int} (x:bt G h v (.tup [.int i,.int m])):U8 h v i m:=by
 obtain ⟨a,o,items,n,rfl,b,aI,_,hd,c⟩:=x.inv;obtain ⟨g,j,e,d,f⟩:=c.two;obtain ⟨t,rfl⟩:=d.inv;obtain ⟨u,rfl⟩:=f.inv;exact ⟨a,o,n,t,u,rfl,b,aI,hd.trans (congrArg (Data.seq · n) (SF.mp e))⟩
theorem U9 (x:dQ G h vs as):(∀a∈as,dB λ i m=>a=ai.tup [.int i,.int m])->∃fs,KatTups h vs fs∧fs.length=vs.length∧∀v∈fs,dB λ i t=>v=Value.int i t:=by
 induction x with
 | nil=>exact λ _=>⟨[],.nil,rfl,λ _ h=>(by cases h)⟩
 | cons r _ ih=>
  intro k;obtain ⟨i,m,rfl⟩:=k _ (.head _);obtain ⟨b,o,n,t,u,rfl,c,aI,hd⟩:=EH r;obtain ⟨fs,d,e,f⟩:=ih λ b g=>k b (.tail _ g);exact ⟨.int i t::fs,.cons c aI hd rfl d,congrArg (· +1) e,kg.mpr ⟨⟨_,_,rfl⟩,f⟩⟩
end
section
variable {prog:gi} {w:fp} {A:c8} {G:aP->aE} {s:a4} {vs:cH} {as:aV}
theorem Va (x:dQ G h vs as) (k:∀a∈as,∃i,a= .int i) (c:2<=vs.length):EF prog w A (λ i=>cx (as.getD i ai.none)) vs s:=by
 refine ⟨oneType',λ Q q=> ?_,λ i j C d e aI=> ?_⟩
 ·rw [ksk_kind (kz:=as.map cx) (by simpa using ints_of x k) (by simpa using c)]
  exact bl q
 ·have a:=at_ x (x.length▸d);have b:=at_ x (x.length▸e);replace aI:C (decide (cx (as.getD i ai.none)<cx (as.getD j ai.none))) s:=aI;revert a b aI;generalize as.getD i .none=p,as.getD j .none=q,vs.getD i .none=v,vs.getD j .none=u;intro a b aI;obtain ⟨f,rfl⟩:=k _ a.2;obtain ⟨g,rfl⟩:=k _ b.2;obtain ⟨l,rfl⟩:=a.1.inv;obtain ⟨t2,rfl⟩:=b.1.inv;exact kat_lt_int aI
theorem Vb {M:wC} (i:Int) (t:Tok):uw M h (zB (.int i t)) (.type "int"):=zC rfl
theorem Vc (x:dQ G s.heap vs as) (k:∀a∈as,dB λ i m=>a= .tup [.int i,.int m]) (r:(as.map cx).Nodup) (y:2<=vs.length):EF prog w A (λ i=>cx (as.getD i ai.none)) vs s:=by
 refine ⟨tuples' true,λ Q q=> ?_,λ i j C d f aI=> ?_⟩
 ·obtain ⟨fs,z,B,D⟩:=U9 x k;exact kat_kind z (B▸ob y) (T:= .type "int") (λ v E=>(D v E).elim λ i t e=>e▸Vb i t) (by decide) q
 ·have a:=at_ x (x.length▸d);have b:=at_ x (x.length▸f);have inj:cx (as.getD i ai.none)=cx (as.getD j ai.none)->as.getD i ai.none=as.getD j ai.none:=λ e=>congrArg (as.getD · ai.none) (EG r (x.length▸d) (x.length▸f) e);replace aI:C (decide (cx (as.getD i ai.none)<cx (as.getD j ai.none))) s:=aI;revert a b aI inj;generalize as.getD i .none=p,as.getD j .none=q,vs.getD i .none=v,vs.getD j .none=u;intro a b inj aI;obtain ⟨c,g,rfl⟩:=k _ a.2;obtain ⟨h,l,rfl⟩:=k _ b.2;obtain ⟨a,o,n,t,u,rfl,F,L,hd⟩:=EH a.1;obtain ⟨M,bw,N,t',H,rfl,I,O,J⟩:=EH b.1;refine kat_lt F hd I J ?_;show KatLex _ _ _ _ _ _ [(.int c t,.int h t'),(.int g u,.int l H)] 0 s;refine kat_cons (Se ?_)
  by_cases e:c=h
  ·have K:=inj e;subst e;obtain rfl:g=l:=ai.int.inj (Ib (Ib (ai.tup.inj K)).2).1;rw [beq_self_eq_true];refine kat_yes (kat_cons (Se ?_));rw [beq_self_eq_true];replace aI:C (decide (c<c)) s:=aI;rw [decide_eq_false (Int.lt_irrefl c)] at aI;exact kat_yes (kat_nil aI)
  ·rw [beq_eq_false_iff_ne.mpr e];exact kat_no (oneLt_int aI)
end
section
variable {W:a0} {H:ag} {s:a4} {A:c8} {E:cA} {Q:KE}
theorem AL (h:n<=60):n<=sx:=bB h (by rw [jX];decide)
theorem EI (S:b4 W H s) {x:aE} {as:aV} (d:qY as) (n:as.length<=60)
  (aI:∀(E:cA) (Q:cH->a4->Prop),(∀h' t vs,(∀b o,s.heap.get? b=some o->h'.get? b=some o)->dQ W.G s.heap vs as->Q vs {s with heap:=h',toks:=t})->aR (aX W.prog W.w) A.in1 (collect x) Q E s)
  (q:∀c,H c=none->Q (.ref c) (H.upd c (.list (as.mergeSort gB)))):aR (aX W.prog W.w) A (call (.builtin "sorted") [x]) (dW W H s.heap Q) E s:=by
 refine Calls.call_function_entry kind_sorted plain_sorted entry_sorted (args_sorted1 _) ?_;unfold Builtin.«sorted»;refine aG (m:=checkCount "sorted" 1 1 _) (bl ?_);refine aG (aI _ _ λ h' t vs ao f=> ?_);have a:=f.length;refine aG (IE ?_ (AL (a▸n)));have r:∀b o,s.heap.get? b=some o->(h'.push (hg "list" vs.toArray 0)).get? b=some o:=λ b o e=>dP _ (ao b o e);have u:(h'.push (hg "list" vs.toArray 0)).get? h'.objs.size=some (hg "list" vs.toArray 0):=hc _ rfl;have v:s.heap.get? h'.objs.size=none:=Et ao (gA _);have w:∀b o,s.heap.get? b=some o->b≠h'.objs.size:=λ b o e q=>no (v.symm.trans (q▸e));refine aG (eb (wq (s:={s with heap:=h'.push (hg "list" vs.toArray 0),toks:=t}) slot_list_sort ⟨_,u,rfl⟩ entry_list_sort ?_ (args_list_sort _)))
 refine U0 (s:={s with heap:=h'.push (hg "list" vs.toArray 0),toks:=t}) (key:=λ i=>cx (as.getD i ai.none)) u (a9 (a▸n) (by decide)) (λ i j g C e=>EG d.2 (a▸g) (a▸C) e) (λ y z t' h=> ?_) λ p z e l B h D=> ?_
 ·exact d.1.elim (λ k=>Va f k y) λ k=>Vc (s:={s with heap:=z,toks:=t'}) (f.stays λ b o e st=>h b o (w b o e) (r b o e)) k d.2 y
 ·rw [a] at l B;exact ⟨.none,rfl,bl ⟨_,rfl,pJ S (xs:=as.mergeSort gB) t v (λ b o e=>h b o (w b o e) (r b o e)) D (U7 d.2 l B▸U3 f λ i g=>fK.mp ((Iy.mp l).mem_iff.mp g)) q⟩⟩
theorem Vd (S:b4 W H s) (e:H x=some (.list vs)) (f:qY vs) (a:vs.length<=60) (q:∀c,H c=none->Q (.ref c) (H.upd c (.list (vs.mergeSort gB)))):
  aR (aX W.prog W.w) A (call (.builtin "sorted") [.ref x]) (dW W H s.heap Q) E s:=by
 obtain ⟨items,n,b,d⟩:=ig S e;exact EI S f a (λ E rh g=>ahf x (.inl rfl) b rfl rfl (λ h' ao=>g h' s.toks _ ao d) (AL ((gT.isList b d).2▸a))) q
theorem Ve (S:b4 W H s) (d:bt W.G s.heap u (.tup vs)) (e:qY vs) (a:vs.length<=60) (q:∀c,H c=none->Q (.ref c) (H.upd c (.list (vs.mergeSort gB)))):
  aR (aX W.prog W.w) A (call (.builtin "sorted") [u]) (dW W H s.heap Q) E s:=by
 obtain ⟨x,o,items,n,rfl,f,aI,_,hd,b⟩:=d.inv;exact EI S e a (λ E rh g=>ahf x (.inr rfl) f aI hd (λ h' ao=>g h' s.toks _ ao b) (AL (bB (bE b.length) a))) q
theorem Vf (S:b4 W H s) (n:A.handled=none) (e:H d=some (.dict .int es)) (h:es.length<=60) (q:∀c,H c=none->Q (.ref c) (H.upd c (.list ((es.map (·.1)).mergeSort gB)))):
  aR (aX W.prog W.w) A (call (.builtin "sorted") [.ref d]) (dW W H s.heap Q) E s:=by
 obtain ⟨kvs,o,_,x,p⟩:=sZ (prog:=W.prog) (w:=W.w) (S.1.1 _ _ e);have g:∀a∈es.map (·.1),∃i,a=ai.int i:=λ a f=>by rw [(Ke x)] at f;exact (bH.mp f).elim λ i z=>⟨i,z.2.symm⟩
 exact EI S (⟨.inl g,SH.mpr (p.imp_of_mem λ {a b} f r e q=>(g a f).elim λ i k=>(g b r).elim λ j l=>e (k.trans ((congrArg ai.int (((congrArg cx k).symm.trans q).trans (congrArg cx l):i=j)).trans l.symm)))⟩:qY (es.map (·.1))) ((cz _).symm▸h) (λ E rh u=>kdu_collect (kdl_dict (knd:=mg W.prog W.w) (kvs:=kvs) (ep:=es.length) (ox S.1 e)) n o (AL (x.length▸h)) λ h' t v y m=>u h' t v.toList y (Kw x m.1 m.2)) q
theorem Vg (S:b4 W H s) (e:H x=some (.list vs)) (hz:vs.length<=lim) (q:Q (.int vs.length) H):aR (aX W.prog W.w) A (call (.builtin "len") [.ref x]) (dW W H s.heap Q) E s:=by
 obtain ⟨items,n,a,b⟩:=ig S e;have c:=(gT.isList a b).2;exact call_len_list (gT.isList a b).1 (wk (mf.mpr (c▸hz)) (by decide)) (c.symm▸hn S _ (.int _ _) q)
theorem Vh (S:b4 W H s) (b:bt W.G s.heap u (.tup vs)) (hz:vs.length<=lim) (q:Q (.int vs.length) H):aR (aX W.prog W.w) A (call (.builtin "len") [u]) (dW W H s.heap Q) E s:=by
 obtain ⟨x,o,items,n,rfl,c,aI,_,hd,d⟩:=b.inv;have a:items.size=vs.length:=d.length;exact len_tuple ⟨o,c,aI,n,hd⟩ (wk (mf.mpr (a▸hz)) (by decide)) (a.symm▸hn S _ (.int _ _) q)
theorem Vi (S:b4 W H s) (a:A.handled=none) {i j:Int} {u:Tok} (q:Q (.int (max i j)) H):aR (aX W.prog W.w) A (call (.builtin "max") [.int i t,.int j u]) (dW W H s.heap Q) E s:=by
 refine max_two_ints a λ h' tk ao=> ?_
 by_cases e:j>i
 ·rw [if_pos e];exact q3 S tk ao (.int _ _) (ahg (IG e)▸q)
 ·rw [if_neg e];exact q3 S tk ao (.int _ _) (ahh (zx.mp e)▸q)
end
end
section
theorem Vj:typeLookup (.type "tuple") "keys"=pure none:=by rw [typeLookup_type,builtinLookup_eq_fast];kernel_rfl
theorem KG:entryFor table "dict.update.loop"=some Builtin.«dict.update.loop»:=entryFor_of_tree (by kernel_rfl)
theorem AM:plainId "dict.update.loop"=true:=by decide+kernel
section
variable {prog:gi} {w:fp} {A:c8} {E:cA} {s:a4}
theorem Vk {o:dq} {xs:Array aE} {k:Nat} {Q:Option aE->a4->Prop}
  (d:s.heap.get? a=some o) (aI:o.cls= .type "tuple") (f:o.data= .seq xs k) (hd:o.dict=none) (l:A.handled=none)
  (h:∀h' tk,(∀b bT,s.heap.get? b=some bT->h'.get? b=some bT)->Q none {s with heap:=h',toks:=tk}):
  aR (aX prog w) A (getAttr? (.ref a) "keys") Q E s:=by
 obtain ⟨c,m,n,cZ⟩:=o;simp only at aI f hd;subst aI f hd;have g:∀i,(⟨s.1,s.2,s.3,i,s.5⟩:a4).TypeIs (.ref a) "tuple":=λ _=>⟨_,d,rfl⟩;have p:=sub_AttributeError;have q:=SI.lookup;have r:=SI.bind (.ref a);have t:=am_tuple_getattr_none;unfold getAttr? getAttrBy? getAttrBy
 repeat (any_goals (first | assumption | exact g _ | ((with_reducible show aR _ _ (call (wo "tuple.__getattribute__") _ _) _ _ _);refine ui SI (g _) am_entry_tuple_getattribute (PySem.F.args_tuple_getattribute_2 _ _) (meets_getattribute_miss_tuple a xs k cZ "keys" _ Vj (by decide+kernel) (by decide+kernel)) ⟨d,l,λ h' i e j=> ?_⟩) | wp_step))
 obtain ⟨t',u,v⟩:=j.there;show aR _ _ (ahi _ _ _ _ _ _ _) _ _ _;unfold ahi
 repeat (any_goals (first | assumption | wp_step))
 exact h _ _ j.keeps
end
section
variable {W:a0} {H:ag} {s:a4} {A:c8} {E:cA} {Q:KE}
theorem KI {k:ai} (h:k∉es.map (·.1)):hk es k v=es++[(k,v)]:=by
 unfold hk;rw [Ay h];rfl
theorem KJ {I:ak} (d:h.IsTupleIter I x i) (ao:∀b o,b∉[I]->h.get? b=some o->h'.get? b=some o):e0 h h':=λ a o e st=>ao a o (λ m=>by
 obtain ⟨bw,f,c,_⟩:=d;exact st.cls (v:= .type "tuple_iterator") (dC (b3.mp m▸e) f▸c) (by decide) (by decide)) e
theorem iW.kept (D:iW G h d sh es) (st:e0 h h') (k:∀o,h.get? d=some o->h'.get? d=some o):iW G h' d sh es:=by
 obtain ⟨ents,m,x⟩:=D;exact ⟨ents,m,k _ x.1,kY.stays st x.2,x.3,x.4,x.5,x.6⟩
theorem Vl {α β:Type} {l:List (α×β)} (h:i<l.length) (a:(l.map (·.1)).Nodup):l[i].1∉(l.take i).map (·.1)∧l.take i++[(l[i].1,l[i].2)]=l.take (i+1):=by
 refine ⟨λ m=> ?_,by rw [og,c4 h];rfl⟩
 rw [(by rw [<- eR,<- wD h,wF]:l.map (·.1)=(l.take i).map (·.1)++(l[i]::l.drop (i+1)).map (·.1))] at a
 exact (gx.mp a).2.2 _ m _ (.head _) rfl
theorem Vm {D I:ak} {kvs:List (ai×ai)} {R:ps->a4->Prop} (L:A.units+20<=ee) (u:A.handled=none) (w:x≠I) (z:D≠I) (M:D≠x)
  (ao:∀p∈kvs,Shape.int.has p.1) (N:(kvs.map (·.1)).Nodup) (hz:kvs.length<=lim) (h0:a3) (B:dQ W.G h0 items.toList (kvs.map λ p=> .tup [p.1,p.2])) (O:h0.get? D=none) (P:h0.get? I=none)
  (q:∀h' t,(∀b o,h0.get? b=some o->h'.get? b=some o)->iW W.G h' D .int kvs->R (.ok (.ret .none)) {s with heap:=h',toks:=t}):
  ∀(n i:Nat) (h:a3) (t:Nat),n+i=kvs.length->(∀b o,h0.get? b=some o->h.get? b=some o)->h.IsTupleIter I x i->h.IsTuple x items->iW W.G h D .int (kvs.take i)->
   jc (aX W.prog W.w) A (.builtin "dict.update.loop" ⟨[.ref D,.ref I,qH i,.none],[]⟩) R {s with heap:=h,toks:=t}:=by
 intro n;have C:items.size=kvs.length:=B.length.trans (cz _);have E:∀b o,h0.get? b=some o->b∉[I]:=λ b o e m=>no ((b3.mp m▸P).symm.trans e);have F:D∉[I]:=λ m=>z (b3.mp m)
 induction n with
 | zero=>
  intro i h t f j d k hd;obtain rfl:i=kvs.length:=(me i).symm.trans f;refine Dg KG ?_;rw [IH AM _];refine aG ((II (A:=A.in1) u I x w items).done {s with heap:=h,toks:=t} _ _ (C▸⟨d,k⟩) λ h' tk c=>aG (bl (bl ?_)))
  rw [zD] at hd;exact q _ _ (λ b o e=>c b o (E b o e) (j b o e)) (hd.kept (KJ d c) λ o=>c _ o F)
 | succ n ih=>
  intro i h t f j d k hd;have bK:i<kvs.length:=f▸Nat.lt_add_of_pos_left (m9 n);refine Dg KG ?_;rw [IH AM _];refine aG ((II (A:=A.in1) u I x w items).item i {s with heap:=h,toks:=t} _ _ (C▸bK) ⟨d,k⟩ λ v h' tk Q st' c=> ?_)
  dsimp only;obtain ⟨y,G⟩:=B.get (i:=i) (b:= .tup [kvs[i].1,kvs[i].2]) (by rw [ff,c4 bK];rfl);have H:=G.1
  rw [jz] at H;obtain rfl:y=v:=dC H Q;obtain ⟨a,o,S,m,rfl,U,aI,_,V,X⟩:=G.2.inv;obtain ⟨Y,Z,l⟩:=X.two;have g:∀b bT,h0.get? b=some bT->h'.get? b=some bT:=λ b bT e=>c b bT (E b bT e) (j b bT e);have J:=g _ _ U;refine aG (eb (aG (wpAny_tryCatch ?_)));unfold Builtin.Dict.pairItems;refine aG (wpAny_typeOf (⟨_,J,aI⟩:IJ {s with heap:=h',toks:=tk} (.ref a) "tuple") ?_)
  rw [if_pos (by decide)]
  refine aG ?_;unfold seqItems?;refine aG (wpAny_load J ?_);rw [V];refine bl (bl ?_);rw [show ((some S).getD #[]).toList=[Y,Z] from l.1];dsimp only;have T:=Vl bK N;refine eb (Ei (s:={s with heap:=h',toks:=tk}) (W:=W) (AH L) (hd.kept (KJ d c) λ o=>c _ o F:iW W.G h' D .int (kvs.take i)) (l.2.1.stays (.of_keep g)) (ao _ (jd bK)) (l.2.2.stays (.of_keep g)) (a9 (List.length_take_le i kvs) (bx bK hz)) λ iz s6 r K=>bl ⟨SJ AM _,?_⟩)
  rw [KI T.1,T.2] at K;exact ih (i+1) iz s6 ((Nat.succ_add_eq_add_succ n i).symm.trans f) (λ b bT e=>(r.2 b ((λ b o e m=>no ((m▸O).symm.trans e):∀b o,h0.get? b=some o->b≠D) b bT e)).trans (g b bT e)) (st'.1.extBut r.extBut z.symm) (st'.2.extBut r.extBut M.symm) K
theorem Vr (v:s.heap.objs.size≠zr) (S:b4 W H s) (w:A.units+40<=ee) (g:A.handled=none) {kvs:List (ai×ai)} (y:bt W.G s.heap u (.tup (kvs.map λ p=> .tup [p.1,p.2])))
  (ao:∀p∈kvs,Shape.int.has p.1) (z:(kvs.map (·.1)).Nodup) (hz:kvs.length<=lim) (q:∀c,H c=none->Q (.ref c) (H.upd c (.dict .int kvs))):
  aR (aX W.prog W.w) A (call (.type "dict") [u]) (dW W H s.heap Q) E s:=by
 obtain ⟨x,o,items,n,rfl,i,aI,B,hd,C⟩:=y.inv;refine callType_codes (Q₁:=λ obj b6=>obj= .ref s.heap.objs.size∧b6={s with heap:=s.heap.push {cls:= .type "dict",data:= .dict #[]}}) PySem.F.kt_called_dict (PySem.F.kt_typeCall_dict_1 _) PySem.F.entry_dict_init (kt_code_dict_new _ ⟨rfl,rfl⟩) ?_;rintro obj b6 ⟨rfl,rfl⟩;have j:(s.heap.push {cls:= .type "dict",data:= .dict #[]}).get? s.heap.objs.size=some {cls:= .type "dict",data:= .dict #[]}:=hc _ rfl;have k:IJ {s with heap:=s.heap.push {cls:= .type "dict",data:= .dict #[]}} (.ref s.heap.objs.size) "dict":=⟨_,j,rfl⟩;have d:(s.heap.push {cls:= .type "dict",data:= .dict #[]}).get? x=some o:=dP _ i;refine ⟨k,PySem.F.args_dict_init_2 _ _,?_⟩;unfold Builtin.«dict.__init__»;refine aG ?_;unfold Builtin.Dict.selfAndRest;refine aG (So k ?_);show aR _ _ (pure (s.heap.objs.size,[kQ x])) _ _ _;refine bl ?_;show aR _ _ (ahj "dict.__init__" s.heap.objs.size (.ref x) [] .none) _ _ _;unfold ahj;refine aG (wpAny_typeOf (⟨_,d,aI⟩:IJ {s with heap:=s.heap.push {cls:= .type "dict",data:= .dict #[]}} (.ref x) "tuple") ?_)
 rw [if_pos (by decide)]
 refine aG (Vk (s:={s with heap:=s.heap.push {cls:= .type "dict",data:= .dict #[]}}) d aI hd B g λ h' tk a=> ?_)
 rw [if_pos (by rfl)]
 refine aG (wm ?_);have f:=a _ _ d;refine aG (ahk (s:={s with heap:=h',toks:=tk}) (⟨o,f,aI,n,hd⟩:h'.IsTuple x items) ?_)
 have l:=a _ _ j;refine bl ⟨SJ AM _,?_⟩;refine Vm (A:=A.in1) (s:=s) (I:=h'.objs.size) (by show A.units+1+20<=_;exact ct (.l (.a .p (.k 40)) (.k 9900)<| .g (.a (.s .p) (.k 20)) (.k 9900)) rfl w) g (e6 (iu f)) (e6 (iu l)) (e6 (iu i):x≠s.heap.objs.size).symm ao z hz s.heap C (gA _) (Et (λ b bT e=>a b bT (dP _ e)) (gA _):s.heap.get? h'.objs.size=none) (λ m t' r t=> ?_) kvs.length 0 _ _ rfl (λ b bT e=>dP _ (a _ _ (dP _ e)):∀b bT,s.heap.get? b=some bT->(h'.push {cls:= .type "tuple_iterator",data:= .fields #[.ref x,qH 0]}).get? b=some bT) ?_ ?_ ?_
 ·refine ⟨rfl,.ref s.heap.objs.size,H.upd s.heap.objs.size (.dict .int kvs),S.heap (S.1.mr (gA _) r uX (show gH W _ m s.heap.objs.size (.dict .int kvs) from t)) t',bh.mr S.1 _ (gA _) r uX (show gH W _ m s.heap.objs.size (.dict .int kvs) from t),.ref _,q _ S.1.Al⟩
 ·exact ⟨_,hc _ rfl,rfl,rfl⟩
 ·exact ⟨o,dP _ f,aI,n,hd⟩
 ·exact ⟨#[],0,dP _ l,.nil,(λ _ h=>(by cases h)),C3,rfl,v⟩
end
end
end Mine
end
section
open PySem
namespace Mine
variable {j m:Nat} {p:Nat×Nat} {t:jb} {hashAt:Nat->Int} {h:Int} {owner:Array (Option Nat)}
open Classical
noncomputable def mz (m:Nat) (p:Nat×Nat):Nat×Nat:=ahl m p.1 p.2
noncomputable def iG (m:Nat):Nat->Nat×Nat->Nat×Nat
 | 0,p=>p
 | n+1,p=>iG m n (mz m p)
theorem KS {n:Nat}:iG m (n+1) p=iG m n (mz m p):=rfl
theorem KU (m:Nat):∀(n:Nat) (p:Nat×Nat),iG m (n+1) p=mz m (iG m n p):=by
 intro n
 induction n with
 | zero=>
  exact λ _=>rfl
 | succ n ih=>
  intro p;rw [KS,ih];rfl
theorem AR (m:Nat):∀(a b:Nat) (p:Nat×Nat),iG m (a+b) p=iG m b (iG m a p):=by
 intro a
 induction a with
 | zero=>
  intro b p;rw [me];rfl
 | succ a ih=>
  intro b p;rw [qG,KS,ih b];rfl
theorem Vs (m:Nat):∀(n:Nat) (p:Nat×Nat),(iG m n p).2=p.2/32^n:=by
 intro n
 induction n with
 | zero=>
  exact λ p=>(Nat.div_one _).symm
 | succ n ih=>
  intro p;rw [KU,mz,ahl,ih,SK,ahm]
theorem Vt (m:Nat) (p:Nat×Nat):(mz m p).1<=m:=iw (Dh _ (m9 m))
theorem Vu (m n:Nat) (h:p.1<=m):(iG m n p).1<=m:=by
 cases n with
 | zero=>exact h
 | succ n=>rw [KU];exact Vt m _
def oA (m:Nat):Prop:=m=7∨m=31∨m=127
theorem Vv (m:Nat) (h:oA m):iG m (m+1) (0,0)=(0,0)/\ ∀j,j<m+1->∃n,n<m+1/\ iG m n (0,0)=(j,0):=by
 rcases h with rfl | rfl | rfl
 ·exact ⟨by decide+kernel,by decide+kernel⟩
 ·exact ⟨by decide+kernel,by decide+kernel⟩
 ·exact ⟨by decide+kernel,by decide+kernel⟩
theorem Vw (h:oA m) {s:Nat} (i:s<=m) (k:j<=m):∃n,n<=m∧iG m n (s,0)=(j,0):=by
 obtain ⟨J,d⟩:=Vv m h;obtain ⟨a,e,f⟩:=d s (Dd i);obtain ⟨b,l,g⟩:=d j (Dd k);rcases pv b a with c | c
 ·refine ⟨m+1 - a+b,eZ (.l (.s .p) .q<| .l (.a .r .q) (.s .t)<| .g (.a .r .p) .t) rfl c (bE (ef (bD (.l (.s .p) (.s .q)<| .g .p (.s .q)) rfl e))),?_⟩;rw [<- f,<- AR,show a+(m+1 - a+b)=(m+1)+b by exact dg (eZ (.l (.a .p .q) (.s .r)<| .g (.a .q (.a .p .t)) (.a (.s .r) .t)) rfl (bE (ef (bD (.l (.s .p) (.s .q)<| .g .p (.s .q)) rfl e)))) (eZ (.l (.s .p) (.a .q .r)<| .g (.a (.s .p) .t) (.a .r (.a .q .t))) rfl (sb _ _)),AR,J,g]
 ·refine ⟨b - a,bB (ur _ _) (iw l),?_⟩;rw [<- f,<- AR,show a+(b - a)=b by exact dg (ci (.l (.a .p .q) .r<| .g (.a .q .p) .r) rfl (bE (ef (bD (.l .p .q<| .g .p .q) rfl c)))) (ci (.l .p (.a .q .r)<| .g .p (.a .r .q)) rfl (sb _ _)),g]
theorem cover (h:oA m) {p:Nat×Nat} (b:p.1<=m) (c:p.2<2^64) (d:j<=m):∃n,n<=m+13∧(iG m n p).1=j:=by
 have J:(iG m 13 p).2=0:=by
  rw [Vs];exact IK (bx c (by decide))
 obtain ⟨n,a⟩:=Vw h (Vu m 13 b) d;refine ⟨13+n,bD (.l .p .q<| .g (.a (.k 13) .p) (.a .q (.k 13))) rfl a.1,?_⟩;rw [AR,show iG m 13 p=((iG m 13 p).1,0) from ux rfl J,a.2]
theorem KV (h:Int):kR h<2^64:=by
 unfold kR;exact (Int.toNat_lt (SM h (show (2^64:Int)≠0 by decide))).mpr (ahn h (show (0:Int)<2^64 by decide))
theorem KW {m:Nat} (xs:aw) (b:xs.length<=m) (h:∀j,j<=m->j∈xs):False:=by
 have a:=(C9:(cg (m+1)).Nodup).length_le_of_subset (λ j c=>h j (iw (fK.mp c)));rw [gy] at a;exact iP _ (a9 b (uu a))
noncomputable def lS (t:jb):Nat->uy->uy
 | 0,p=>p
 | n+1,p=>lS t n (t.advance p)
theorem EL {n:Nat} {p:uy}:lS t (n+1) p=lS t n (t.advance p):=rfl
theorem KX (t:jb):∀(a b:Nat) (p:uy),lS t (a+b) p=lS t b (lS t a p):=by
 intro a
 induction a with
 | zero=>
  intro b p;rw [me];rfl
 | succ a ih=>
  intro b p;rw [qG,EL,ih b];rfl
theorem Vx (t:jb):∀(n:Nat) (p:uy),p.more=n->lS t n p={p with j:=p.j+n,more:=0}:=by
 intro n
 induction n with
 | zero=>
  intro p h;cases p;simp only at h;subst h;rfl
 | succ n ih=>
  intro p h;rw [EL];have e:t.advance p={p with j:=p.j+1,more:=n}:=by unfold SN;rw [if_pos (by exact bD (.f .p (.s .q)<| .g (.s (.k 0)) .p) rfl h),h];rfl
  rw [e,ih _ rfl];simp;exact dg (bD (.g (.a (.s .p) .q) (.a .p (.s .q))) rfl) (bD (.g (.a .p (.s .q)) (.a (.s .p) .q)) rfl)
noncomputable def start (t:jb) (p:Nat×Nat):uy:={j:=p.1,more:=sE t.mask p.1 - p.1,i:=p.1,perturb:=p.2,dummy:=none}
theorem Vy (t:jb) (p:Nat×Nat):∃n,n<=10∧lS t n (start t p)=start t (mz t.mask p):=by
 refine ⟨sE t.mask p.1 - p.1+1,?_,?_⟩
 ·have:sE t.mask p.1<=p.1+9:=by unfold sE;split<;>first | exact dn _ | exact fJ _ _
  exact ug (Nat.sub_le_iff_le_add'.mpr this)
 ·rw [KX,show lS t (sE t.mask p.1 - p.1) (start t p)=_ from Vx t _ (start t p) rfl];rw [show (1:Nat)=0+1 from rfl,EL];show lS t 0 _=_;rw [show ∀p,lS t 0 p=p from λ _=>rfl];unfold SN start mz
  rfl
theorem Vz (t:jb):∀(k:Nat) (p:Nat×Nat),∃n,n<=10*k∧lS t n (start t p)=start t (iG t.mask k p):=by
 intro k
 induction k with
 | zero=>
  exact λ p=>⟨0,dn _,rfl⟩
 | succ k ih=>
  intro p;obtain ⟨a,c⟩:=Vy t p;obtain ⟨b,aD⟩:=ih (mz t.mask p);exact ⟨a+b,ci (.l .p (.k 10)<| .l .q (.m 10 .r)<| .g (.a .p .q) (.m 10 (.s .r))) rfl c.1 aD.1,by rw [KX,c.2,aD.2];rfl⟩
theorem VA (hd:t.dummies= #[]) (j:Nat):(∃i,t.slot j= .live i∧t.place[i]? =some j)∨t.slot j= .empty:=by
 unfold SetTable.slot;dsimp only
 split
 ·rename_i h;exact .inl ⟨_,rfl,by simpa using h⟩
 ·right;rw [hd];simp [aho]
theorem KY {f:Nat} {p:uy}:zE t hashAt h (f+1) p=match t.slot p.j with
 | .empty=>some (.empty p.j p.dummy)
 | .dummy=>zE t hashAt h f (t.advance {p with dummy:=some p.j})
 | .live i=>if hashAt i==h then some (.candidate p.j i (t.advance p)) else zE t hashAt h f (t.advance p):=rfl
theorem VB (hd:t.dummies= #[]) (d:∀(i j:Nat),t.place[i]? =some j->hashAt i≠h):∀(f:Nat) (p:uy),p.dummy=none->
  (∃j,zE t hashAt h f p=some (.empty j none))∨∀n,n<f->(lS t n p).j∈t.place.toList:=by
 intro f
 induction f with
 | zero=>
  exact λ p _=> .inr λ n h=>(fR 0 (ct (.l (.s .p) (.k 0)<| .g .o (.k 0) (n:=0)) rfl h)).elim
 | succ f ih=>
  intro p c;rcases VA hd p.j with ⟨i,e,a⟩ | e
  ·have g:(t.advance p).dummy=none:=by unfold SN;split<;>exact c
   have J:zE t hashAt h (f+1) p=zE t hashAt h f (t.advance p):=by
    rw [KY,e];simp [d i p.j a]
   rw [J];rcases ih _ g with b | b
   ·exact .inl b
   ·refine .inr λ n bK=> ?_;cases n with
    | zero=>exact cY (by rw [<- jz] at a;exact a)
    | succ n=>exact b n (sC bK)
  ·exact .inl ⟨p.j,by rw [KY,e,c]⟩
theorem VC {h:Int} (c:oA t.mask) (hd:t.dummies= #[]) (d:t.place.size<=t.mask) (e:∀(i j:Nat),t.place[i]? =some j->hashAt i≠h):
  ∃j,t.probe hashAt h (t.probeStart h)=some (.empty j none):=by
 rcases VB hd e (10*zF t.mask) (t.probeStart h) rfl with J | J
 ·exact J
 ·exfalso;refine KW (m:=t.mask) t.place.toList (by simpa using d) λ j f=> ?_
  have g:t.probeStart h=start t (kR h%(t.mask+1),kR h):=rfl;obtain ⟨n,a⟩:=cover c (p:=(kR h%(t.mask+1),kR h)) (iw (Dh _ (m9 _))) (KV h) f;obtain ⟨k,b⟩:=Vz t n (kR h%(t.mask+1),kR h);have:=J k (by unfold zF;exact ci (.l .p (.a .q (.k 13)) (n:=10)<| .l .r (.m 10 .p)<| .g (.s .r) (.m 10 (.a .q (.k 15)))) rfl a.1 b.1)
  rw [g,b.2] at this;exact a.2▸this
noncomputable def k9 (owner:Array (Option Nat)) (j:Nat):Bool:=(owner.getD j none).isSome
theorem getD_none:(owner.getD j (some 0)).isNone=true↔j<owner.size∧k9 owner j=false:=by
 unfold k9;rw [um,um]
 by_cases h:j<owner.size
 ·rw [uj h];simp [h]
 ·rw [Array.getElem?_eq_none (fD h)];simp [h]
theorem VD {f i a:Nat}:Di m owner (f+1) i a=match (cg (sE m i+1 - i)).find? λ k=>(owner.getD (i+k) (some 0)).isNone with
 | some k=>some (i+k)
 | none=>Di m owner f (mz m (i,a)).1 (mz m (i,a)).2:=rfl
theorem VE {m:Nat} {owner:Array (Option Nat)}:∀(f i a:Nat),(∃j,Di m owner f i a=some j∧j<owner.size∧k9 owner j=false)∨∀n,n<f->¬((iG m n (i,a)).1<owner.size∧k9 owner (iG m n (i,a)).1=false):=by
 intro f
 induction f with
 | zero=>
  exact λ i a=> .inr λ n h=>λ z=>iP _ (bx h (dz _))
 | succ f ih=>
  intro i a;rw [VD];cases e:(cg (sE m i+1 - i)).find? λ k=>(owner.getD (i+k) (some 0)).isNone with
  | some k=>
   have:=SO e;exact .inl ⟨i+k,rfl,getD_none.mp this⟩
  | none=>
   have b:i<=sE m i:=by unfold sE;split<;>first | exact fJ _ _ | exact dn _
   rcases ih (mz m (i,a)).1 (mz m (i,a)).2 with J | J
   ·exact .inl J
   ·refine .inr λ n c=> ?_;cases n with
    | zero=>intro d;exact (ahp.mp e 0 (fK.mpr (ci (.l .p .q<| .l (.s .q) (.a .r .p)<| .g (.s (.k 0)) .r) rfl b (sb _ _)))) (getD_none.mpr d)
    | succ n=>exact J n (sC c)
theorem VF (c:oA m) {bu:aw} (d:owner.size=m+1) (e:∀j,k9 owner j=true->j∈bu) (f:bu.length<=m) (h:Int):
  ∃j,Di m owner (zF m) (kR h%(m+1)) (kR h)=some j∧j<owner.size∧k9 owner j=false:=by
 rcases VE (m:=m) (owner:=owner) (zF m) (kR h%(m+1)) (kR h) with J | J
 ·exact J
 ·exfalso;refine KW bu f λ j a=>e j ?_;obtain ⟨n,aD⟩:=cover c (p:=(kR h%(m+1),kR h)) (iw (Dh _ (m9 _))) (KV h) a;have b:=J n (by unfold zF;exact bD (.l .p (.a .q (.k 13))<| .g (.s .p) (.a .q (.k 15))) rfl aD.1)
  rw [aD.2] at b;cases g:k9 owner j with
  | true=>rfl
  | false=>exact absurd ⟨bx (a9 a (gj _)) (bE d.symm),g⟩ b
noncomputable abbrev Laid (m:Nat) (owner:Array (Option Nat)) (k:Nat):Prop:=gR (owner.size=m+1) (∀j v,owner.getD j none=some v->v<k) (∃bu:aw,bu.Nodup∧bu.length=k∧(∀j∈bu,j<m+1)∧∀j,k9 owner j=true↔j∈bu)
theorem VG (m:Nat):Laid m (ahq (m+1) none) 0:=by
 have e:∀j,(ahq (m+1) (none:Option Nat)).getD j none=none:=λ j=>by
  rw [um,Array.getElem?_replicate];split<;>rfl
 exact ⟨by simp,λ j v h=>(by rw [e] at h;cases h),[],C3,rfl,λ _ h=>(by cases h),λ j=>by simp [k9,e]⟩
theorem VH {k:Nat} (x:Laid m owner k) (b:j<owner.size) (c:k9 owner j=false):Laid m (owner.setIfInBounds j (some k)) (k+1):=by
 have e:∀i,(owner.setIfInBounds j (some k)).getD i none=if i=j then some k else owner.getD i none:=λ i=>by
  rw [um,um,Array.getElem?_setIfInBounds]
  by_cases h:j=i
  ·subst h;simp [b]
  ·rw [if_neg h,if_neg (λ e=>h e.symm)]
 obtain ⟨bu,a⟩:=x.3;refine ⟨by simp [x.1],λ i v h=> ?_,j::bu,kP.mpr ⟨λ h=>(by rw [(a.2.2.2 j).mpr h] at c;cases c),a.1⟩,by simp [a.2.1],λ i h=> ?_,λ i=> ?_⟩
 ·rw [e] at h
  split at h
  ·cases h;exact gj _
  ·exact bX (x.2 i v h) (gj _)
 ·rcases dZ.mp h with rfl | h
  ·rw [<- x.1];exact b
  ·exact a.2.2.1 i h
 ·unfold k9;rw [e,dZ]
  by_cases h:i=j
  ·simp [h]
  ·rw [if_neg h];have:=a.2.2.2 i;unfold k9 at this;exact this.trans (by simp [h])
theorem VI (g:oA m):∀(a:List Int) (owner:Array (Option Nat)) (k:Nat),Laid m owner k->k+a.length<=m->
  ∃d,a.foldl (init:=some (owner,k)) (λ i h=>do
   let (owner,k) <- i
   let j <- Di m owner (zF m) (kR h%(m+1)) (kR h)
   pure (owner.setIfInBounds j (some k),k+1))=some (d,k+a.length)∧Laid m d (k+a.length):=by
 intro a
 induction a with
 | nil=>
  exact λ owner k x _=>⟨owner,rfl,x⟩
 | cons h a ih=>
  intro owner k x b;obtain ⟨bu,e⟩:=x.3;rw [f7] at b;obtain ⟨j,c⟩:=VF g x.1 (λ j l=>(e.2.2.2 j).mp l) (bB (bB (bE e.2.1) (fJ _ _)) b) h;obtain ⟨bw,f⟩:=ih _ (k+1) (VH x c.2.1 c.2.2) (ci (.l (.a .p (.s .q)) .r<| .g (.a (.s .p) .q) .r) rfl b);refine ⟨bw,?_,by rw [f7,<- zq,qG];exact f.2⟩
  rw [uz,f7,<- zq,qG,<- f.1];simp only [Option.bind_eq_bind,ahr,c.1]
  rfl
theorem VJ (p:oA m) {hashes:Array Int} (q:hashes.size<=m) (eE g:Nat) (led gC:Bool):dB λ k d=>ahs m eE g led gC hashes=some ({mask:=m,place:=k,dummies:= #[],finger:=eE,led:=led,moves:=g,plain:=gC},d)∧
  k.size=hashes.size∧d.size=hashes.size∧∀i∈d.toList,i<hashes.size:=by
 obtain ⟨owner,e⟩:=VI p hashes.toList _ 0 (VG m) (by simpa using q)
 obtain ⟨bu,aD⟩:=e.2.3;have eU:=aD.2.1;have eU:bu.length=hashes.size:=by rw [eU,me];exact pq
 have r:aht m hashes=some owner:=by
  unfold aht;rw [<- Array.foldl_toList,e.1];rfl
 have n:((cg (m+1)).filterMap λ j=>(owner.getD j none).map (j,·)).length=hashes.size:=by
  have J:((cg (m+1)).filterMap λ j=>(owner.getD j none).map (j,·)).map (·.1)=(cg (m+1)).filter (k9 owner):=by
   generalize cg (m+1)=l
   induction l with
   | nil=>rfl
   | cons a l ih=>
    unfold k9;cases h:owner.getD a none with
    | none=>rw [List.filterMap_cons_none (by simp [h]),Dj (by simp [h])];exact ih
    | some v=>rw [ahu (b:=(a,v)) (by simp [h]),Dk (by simp [h]),fe];exact congrArg _ ih
  rw [<- cz (f:=(·.1)),J,<- eU];refine dg ?_ ?_
  ·exact List.Nodup.length_le_of_subset (IL _ C9) λ j c=>(aD.2.2.2 j).mp (kS.mp c).2
  ·exact aD.1.length_le_of_subset λ j c=>kS.mpr ⟨fK.mpr (aD.2.2.1 j c),(aD.2.2.2 j).mpr c⟩
 refine ⟨_,_,by unfold ahs;rw [r];rfl,by rw [wA,cz];exact n,by rw [wA,cz];exact n,λ i o=> ?_⟩
 simp only [List.toList_toArray,bH,Dl] at o;obtain ⟨⟨a,b⟩,⟨j,_,c⟩,rfl⟩:=o;cases h:owner.getD j none with
 | none=>rw [h] at c;cases c
 | some v=>
  rw [h] at c;simp at c;have:=e.2.2 j v h;simp at this;exact ci (.f .p .q<| .l (.s .p) .r<| .g (.s .q) .r) rfl c.2 this
end Mine
end
section
open PySem PySem.W PyProof.Rows PySem.Calls PySem.SeqAt
namespace Mine
variable {m:aW->Option aE} {ep j n r:Nat} {ei ns:aw} {h h' h0 h₀:a3} {D I S b d:ak} {Q:KE} {it o:cu} {items:Array aE} {ba rn:ag->Prop} {e2 rest vs:cH} {as dm kB st xs:aV} {c:bq} {env:b0} {a7 l:cq} {fr:List b0} {A:c8} {H H1 aa d3 gq:ag} {E:cA} {u:aE} {bT:c5} {W:a0} {a1 a2 bA bg bo cW:ai} {s1:a4} {e1:gJ} {pos:cn} {K:dt} {body:List fT} {c7:dq} {G:aP->aE} {bu:bZ} {fd:lI}
open Classical
section
noncomputable def J (n:Nat):Int:=kk (.tup [.int (n:Nat)])
theorem K0 (n:Nat):J n=Ic (CU [CT (n:Nat)]):=rfl
theorem VK:∀m,m<50->∀n,n<50->Ic (CU [CT (m:Nat)])=Ic (CU [CT (n:Nat)])->m=n:=by decide+kernel
theorem VL {m:Nat} (a:m<50) (b:n<50) (e:J m=J n):m=n:=VK m a n b (by rw [<- K0,<- K0];exact e)
theorem K1 {α:Type} (xs:Array α) (p:Nat) (x:α):(uA xs p x).size=xs.size+1:=by
 unfold uA;simp;exact (qG _ _ _).trans (congrArg (· +1) ((Ie ..).trans (Nat.min_comm .. ▸Nat.sub_add_min_cancel _ _)))
theorem VM {α:Type} {xs:Array α} {p:Nat} {x y:α} (h:y∈(uA xs p x).toList):y=x∨y∈xs.toList:=by
 unfold uA at h;rw [Ij,CW,ahv,ahv] at h;rcases c6.mp h with h | h
 ·rcases c6.mp h with h | h
  ·exact .inr (IM (Dm h))
  ·exact .inl (b3.mp h)
 ·exact .inr (IM (Dm h))
noncomputable abbrev Tab (es:Array (Int×aE)) (t:jb) (ns:aw):Prop:=eT (oA t.mask) (t.dummies= #[]) (t.place.size=es.size) (es.size=ns.length) (es.size*5<t.mask*3) (∀e∈es.toList,∃m∈ns,e.1=J m)
def mA (h:a3) (S:ak) (ns:aw):Prop:=hi λ es ep t=>h.get? S=some {cls:= .type "set",data:= .set es ep t}∧Tab es t ns
theorem Tab.fits {es:Array (Int×aE)} {t:jb} (x:Tab es t ns):t.fits es.size=true:=by
 unfold IP ahw;simp [x.2,x.3];exact bD (.l (.s (.w 5 .p)) (.w 3 .q)<| .g .p .q (n:=5)) rfl x.5
theorem VN (a:ak) (b:Nat):setRelay a b=(do
  let (es,_,t) <- IQ a
  if pw b>sx then unsupported "set:memory"
  let (es,t) <- (do
   let some (t,c):=t.relaid (es.map (·.1)) b | unsupported "internal:set-table-without-room"
   let es':=c.filterMap (es[·]?)
   if es'.size !=es.size then unsupported "internal:set-table-lost-an-element"
   pure (es',t))
  storeSet a es t):=rfl
theorem filter_all {α β:Type} {f:α->Option β}:∀(l:List α),(∀a∈l,(f a).isSome)->(l.filterMap f).length=l.length∧∀b∈l.filterMap f,∃a∈l,f a=some b:=by
 intro l
 induction l with
 | nil=>
  exact λ _=>⟨rfl,λ _ h=>by cases h⟩
 | cons a l ih=>
  intro h;obtain ⟨b,g⟩:=hh.mp (h a (.head _));obtain ⟨i,j⟩:=ih λ x d=>h x (.tail _ d);rw [ahu g];refine ⟨by simp [i],λ c aI=> ?_⟩
  rcases dZ.mp aI with rfl | aI
  ·exact ⟨a,.head _,g⟩
  ·obtain ⟨x,d,e⟩:=j c aI;exact ⟨x,.tail _ d,e⟩
section
variable {prog:gi} {w:fp} {G:aP->aE} {s:a4} {A:c8} {E:cA}
theorem K2 {es es':Array (Int×aE)} {t t':jb} (a:h.get? S=some {cls:= .type "set",data:= .set es ep t}):
  (h.update S (IS es' t')).get? S=some {cls:= .type "set",data:= .set es' (ep+1) t'}:=by
 have:=sy (IS es' t') a (by rw [putSet_of es' t' rfl];rfl)
 rw [putSet_of es' t' rfl] at this;exact this
theorem VO {es:Array (Int×aE)} {t:jb} {a:Nat} {Q:Unit->a4->Prop} (d:s.heap.get? S=some {cls:= .type "set",data:= .set es ep t})
  (l:t.fits es.size=true) (o:es.size=ns.length) (p:∀e∈es.toList,∃m∈ns,e.1=J m) (hw:pw a<=sx) (g:oA (pw a - 1)) (h:es.size*5<(pw a - 1)*3)
  (q:∀h',n9 S s.heap h'->mA h' S ns->Q () {s with heap:=h'}):aR (aX prog w) A (setRelay S a) Q E s:=by
 rw [VN];refine aG (IT d rfl l ?_);dsimp only;rw [if_neg (λ z=>iP _ (a9 hw z))];obtain ⟨y,j,e,dp,eU,hS⟩:=VJ g (hashes:=es.map (·.1)) (by rw [SG];exact bD (.l (.s (.w 5 .p)) (.w 3 .q)<| .g .p .q (n:=5)) rfl h) t.finger (t.movedTo (pw a - 1)) t.led t.plain
 rw [SG] at dp eU hS;have r:t.relaid (es.map (·.1)) a=_:=e;rw [r];obtain ⟨u,v⟩:=filter_all (f:=λ i=>es[i]?) j.toList λ i c=>by rw [uj (hS i c)];rfl
 have b:(j.filterMap (es[·]?)).size=es.size:=by
  rw [<- pq,ahx];exact u.trans eU
 refine aG ?_;dsimp only;rw [b];simp only [bne_self_eq_false,zA,if_false];refine bl ?_;dsimp only;refine ahy d rfl (q _ (qE ..) ⟨_,_,_,K2 d,g,rfl,by rw [b];exact dp,by rw [b];exact o,by rw [b];exact h,λ x k=> ?_⟩) (by rw [b,jX];exact bD (.l (.s (.w 5 .p)) (.w 3 .q)<| .l .q (.k 127) (n:=3)<| .g .p (.k 16777216) (n:=5)) rfl h (by {rcases g with e | e | e<;>rw [e]<;>decide}:pw a - 1<=127))
 rw [ahx] at k;obtain ⟨i,_,c⟩:=v x k;exact p x (cY (by rw [<- jz] at c;exact c))
theorem VP {es:Array (Int×aE)} {t:jb} {x:aE} {a:Int} {Q:SetFound->a4->Prop} (b:s.heap.get? S=some {cls:= .type "set",data:= .set es ep t}) (c:t.fits es.size=true) (d:t.gaveWay=false)
  (e:t.probe (λ i=>(es[i]?.map (·.1)).getD 0) a (t.probeStart a)=some (.empty j none)) (q:Q (.free j false) s):aR (aX prog w) A (setSearch S x a true) Q E s:=by
 refine aG (m:=IQ S) (IT b rfl c ?_);refine Dn (decide_eq_false (ne_true_of_eq_false d)) ?_;dsimp only;erw [e];exact bl q
theorem VQ {x:aE} {Q:Bool->a4->Prop} (c:bt G s.heap x (.tup [.int (n:Nat)])) (q:Q true s):aR (aX prog w) A (hashByValue 8 x) Q E s:=by
 obtain ⟨a,o,items,k,rfl,e,h,_,f,d⟩:=JD c;refine aG (m:=specialOf (.ref a) "__hash__") (Ig c.DZ agN.lookup ?_);refine aG (m:=seqItems? (.ref a)) (wpAny_seqItems e f ?_);have b:∃u,items.toList=[Value.int (n:Nat) u]:=by
  generalize items.toList=l at d;cases d with
  | cons r g=>cases g;obtain ⟨u,rfl⟩:=int_inv r;exact ⟨u,rfl⟩
 obtain ⟨u,b⟩:=b;refine aG ?_;show aR _ _ (wj items _ _) _ _ _;rw [<- R7,b];exact aG (m:=hashByValue 7 (.int (n:Nat) u)>>=_) (aG (m:=pure true) (bl (Dn (decide_eq_false fS) (bl (bl (bl q))))))
theorem aiT {m k:Nat} (h:m=7∨m=31∨m=127) (a:k*5<m*3):(m=7->k+1<=5)/\ (m=31->k+1<=19)/\ k+1<=m:=by
 have b:7<=m:=by rcases h with rfl | rfl | rfl<;>decide
 exact ⟨λ e=>(by rw [e] at a;exact ct (.l (.s (.w 5 .p)) (.k 21)<| .g (.s .p) (.k 5) (n:=5)) rfl a),λ e=>(by rw [e] at a;exact ct (.l (.s (.w 5 .p)) (.k 93)<| .g (.s .p) (.k 19) (n:=5)) rfl a),bD (.l (.s (.w 5 .p)) (.w 3 .q)<| .l (.k 7) .q (n:=2)<| .g (.s .p) .q (n:=5)) rfl a b⟩
theorem VR {m k:Nat} (h:m=7∨m=31∨m=127) (ao:k<50) (b:k*5<m*3) (a:m*3<=(k+1)*5):k=4∨k=18:=by
 rcases h with rfl | rfl | rfl
 ·exact .inl (dg (ct (.l (.s (.w 5 .p)) (.k 21)<| .g .p (.k 4) (n:=5)) rfl b) (ct (.l (.k 21) (.w 5 (.s .p))<| .g (.k 4) .p (n:=5)) rfl a))
 ·exact .inr (dg (ct (.l (.s (.w 5 .p)) (.k 93)<| .g .p (.k 18) (n:=5)) rfl b) (ct (.l (.k 93) (.w 5 (.s .p))<| .g (.k 18) .p (n:=5)) rfl a))
 ·exact (fR 0 (ct (.l (.s .p) (.k 50) (n:=5)<| .l (.k 381) (.w 5 (.s .p))<| .g .o (.k 0) (n:=0)) rfl ao a)).elim
theorem VS {k:Nat} (h:k=4∨k=18):pw (zG (k+1))<=128∧oA (pw (zG (k+1)) - 1)∧(k+1)*5<(pw (zG (k+1)) - 1)*3:=by
 rcases h with e | e<;>rw [e]
 ·rw [show pw (zG (4+1))=32 by decide+kernel];exact ⟨by decide,.inr (.inl rfl),by decide⟩
 ·rw [show pw (zG (18+1))=128 by decide+kernel];exact ⟨by decide,.inr (.inr rfl),by decide⟩
theorem VT {a:ak} {es:Array (Int×aE)} {p:Nat} {t t2:jb} {Q:Bool->a4->Prop} (l:s.heap.get? S=some {cls:= .type "set",data:= .set es ep t}) (T:Tab es t ns) (hz:ns.length<50)
  (c:t2.mask=t.mask) (o:t2.dummies= #[]) (f:t2.place.size=es.size+1) (q:∀h',n9 S s.heap h'->mA h' S (ns++[n])->Q true {s with heap:=h'}):
  aR (aX prog w) A (do
    storeSet S (uA es p (J n,kQ a)) t2
    if (!false&&t2.tooFull)=true then do
     setRelay S (zG (es.size+1))
     pure true
    else pure true) Q E s:=by
 have ao:es.size<50:=T.4▸hz;have z:=K1 es p (J n,kQ a);have sub:∀e∈(uA es p (J n,kQ a)).toList,∃m∈ns++[n],e.1=J m:=λ e g=>(VM g).elim (λ q=>⟨n,ix _ (.head _),congrArg m8 q⟩) λ g=>(T.6 e g).elim λ m z=>⟨m,f9 _ z.1,z.2⟩;generalize uA es p (J n,kQ a)=d at z sub ⊢;have r:d.size=(ns++[n]).length:=by rw [z,T.4,cI];rfl
 refine aG (ahy l rfl ?_ (by rw [z,jX];exact su (bX ao (by decide))))
 have h:=K2 (es':=d) (t':=t2) l;have i:=qE s.heap S (IS d t2);generalize s.heap.update S (IS d t2)=H1 at h i ⊢;have j:t2.fill=es.size+1:=by unfold ahw;rw [o,f];rfl
 cases u:t2.tooFull with
 | true=>
  have b:=u;unfold ahz at b;rw [j,c,decide_eq_true_eq] at b;have k:=VS (VR T.1 ao T.5 b);have v:t2.fits d.size=true:=by
   unfold IP;rw [j,f,z,c];simp;have x:7<=t.mask:=by rcases T.1 with e | e | e<;>rw [e]<;>decide
   exact bD (.l (.s (.w 5 .p)) (.w 3 .q)<| .l (.k 7) .q (n:=2)<| .g (.s .p) .q (n:=5)) rfl T.5 x
  exact wpAny_ite_true rfl (aG (VO h v r sub (by rw [jX];exact bB k.1 (by decide)) k.2.1 (by rw [z];exact k.2.2) λ h' y B=>bl (q h' (i.trans y) B)))
 | false=>
  have b:=u;unfold ahz at b;rw [j,c,decide_eq_false_iff_not] at b;exact Dn rfl (bl (q H1 i ⟨_,_,_,h,c▸T.1,o,f.trans z.symm,r,by rw [z,c];exact IC b,sub⟩))
theorem VW {t d:jb} {p:Nat} (hd:t.dummies= #[]) (c:t.put j=(d,p)):d={t with place:=uA t.place p j}:=by
 unfold SetTable.put at c;simp only [hd] at c;injection c with a b;subst b;rw [<- a];have:aho #[] j=false:=rfl;rw [this];simp [hd]
theorem VX {x:aE} {Q:Bool->a4->Prop} (d:bt G s.heap x (.tup [.int (n:Nat)])) (u:mA s.heap S ns) (v:n∉ns) (z:n<50) (B:∀m∈ns,m<50) (hz:ns.length<50) (C:A.units+20<ee)
  (q:∀h' tk,s.toks<=tk->n9 S s.heap h'->mA h' S (ns++[n])->Q true {s with heap:=h',toks:=tk}):aR (aX prog w) A (setAdd S x) Q E s:=by
 obtain ⟨es,ep,t,b,T⟩:=u;obtain ⟨a,_,_,_,rfl,_⟩:=JD (show bt G s.heap x (.tup [.int (n:Nat)]) from d);refine eb (aG (m:=pyHash (.ref a)) (keyHash (n:=2) (ct (.l (.s (.a .p (.k 20))) (.k 9900)<| .g (.s (.a .p (.k 2))) (.k 9900)) rfl C) (.inr ⟨_,rfl,λ y D=> .inl ⟨_,b3.mp D⟩⟩) s _ _ rfl d ?_));refine eb (aG (m:=IQ S) (IT b rfl T.fits (Dn rfl ?_)));have F:t.gaveWay=false:=by
  unfold SetTable.gaveWay;rcases T.1 with e | e | e<;>rw [e]<;>rfl
 obtain ⟨j,H⟩:=VC (h:=kk (.tup [.int (n:Nat)])) T.1 T.2 (by rw [T.3];exact bD (.l (.s (.w 5 .p)) (.w 3 .q)<| .g .p .q (n:=5)) rfl T.5) (hashAt:=λ i=>(es[i]?.map (·.1)).getD 0) λ i j I=>by
  have g:i<es.size:=by rw [<- T.3];exact (It.mp I).1
  show (es[i]?.map (·.1)).getD 0≠J n;rw [uj g];obtain ⟨m,k,e⟩:=T.6 es[i] (Array.getElem_mem_toList g);exact λ K=>v (VL (B m k) z (e.symm.trans K)▸k)
 refine aG (VP (s:={s with toks:=s.toks+jZ (.tup [.int (n:Nat)])}) b T.fits F H ?_)
 refine aG (m:=IQ S) (IT b rfl T.fits ?_);dsimp only;generalize L:t.put j=tp;obtain ⟨c,p⟩:=tp;have f:=VW T.2 L;have l:c.place.size=es.size+1:=by rw [f];exact (K1 _ _ _).trans (by rw [T.3])
 have o:c.mask=t.mask:=by rw [f]
 have r:c.dummies= #[]:=by rw [f];exact T.2
 have fin:=λ (t2:jb) M N O=>VT (prog:=prog) (w:=w) (A:=A) (E:=E) (Q:=Q) (s:={s with toks:=s.toks+jZ (.tup [.int (n:Nat)])}) (a:=a) (p:=p) (n:=n) (t2:=t2) b T hz M N O λ h'=>q h' _ (fJ _ _)
 cases P:c.plain with
 | false=>exact Dn rfl (aG (bl (fin _ o r l)))
 | true=>exact wpAny_ite_true rfl (aG (VQ (s:={s with toks:=s.toks+jZ (.tup [.int (n:Nat)])}) d (fin _ o r l)))
theorem K4 {a:ak} {o:dq} (d:h.get? a=some o) (f:¬Still o) (k:∀b o,b≠a->h.get? b=some o->h'.get? b=some o):e0 h h':=λ b bT e st=>by
 by_cases c:b=a
 ·subst c;rw [d] at e;cases e;exact absurd st f
 ·exact k b bT c e
theorem mA.VY (x:mA h S ns):∃o,h.get? S=some o∧¬Still o:=by
 obtain ⟨es,ep,t,e,_⟩:=x;exact ⟨_,e,by rintro (⟨e,_⟩ | ⟨e,_⟩)<;>simp at e⟩
theorem VZ {i:Nat} (h:i<ns.length):ns.take (i+1)=ns.take i++[ns[i]]:=by
 rw [og,c4 h];rfl
theorem V0 {R:ps->a4->Prop} {fh:gb} {x:Array zH->Array zH->Prop} {St:Nat->a4->Prop} (g:WalksS prog w A.in1 I fh [I] x items.size (λ i v=>items[i]? =some v) St) (S:ak) (y:S∉fh)
  (tc:∀i s,St i s->∃o,s.heap.get? I=some o∧¬Still o) {ns:aw} {h0:a3} (z:dQ G h0 items.toList (ns.map λ n=> .tup [.int (n:Nat)])) (B:ns.Nodup) (p:∀m∈ns,m<50) (L:A.in1.units+20<ee):
  ∀(k i:Nat) (s:a4),items.size - i=k->i<=items.size->St i s->e0 h0 s.heap->mA s.heap S (ns.take i)->
   (∀s',Moved (S::[I]) x s s'->mA s'.heap S ns->R (.ok (.ret .none)) s')->
   jc (aX prog w) A (.builtin "set.update.loop" ⟨[.ref S,.ref I],[]⟩) R s:=by
 have C:items.size=ns.length:=by have:=z.length;simpa using this
 have M:ns.length<=50:=by
  have:=B.length_le_of_subset (l₂:=cg 50) λ m c=>fK.mpr (p m c);rwa [gy] at this
 have D:S∉[I]:=by simpa using (λ e=>y (e▸g.sub I (by simp)):S≠I)
 have E:∀b∈[I],b∈S::[I]:=λ b d=>ahA _ d;intro k
 induction k with
 | zero=>
  intro i s ao q j F l gV;have f:i=items.size:=dg (bD (.l .p .q<| .g .p .q) rfl q) (ci (.e .p (.k 0)<| .l .q (.a .p .r)<| .g .q .r) rfl ao (sb _ _));subst f;refine Dg ahB ?_;rw [IH SP _];show aR _ A.in1 (Dp (.ref I)>>=_) _ _ s;refine aG (g.done s _ _ j λ s' c=> ?_);show aR _ A.in1 (ret mh) _ _ s';refine bl (gV s' (c.mono E) ?_);rw [C,zD] at l;obtain ⟨es,ep,t,e,T⟩:=l;exact ⟨es,ep,t,c.heap S _ D e,T⟩
 | succ k ih=>
  intro i s ao q j F l gV;have bK:i<items.size:=eZ (.f .p (.s .q)<| .l (.a .p .r) .t<| .g (.s .r) .t) rfl ao (bE (ef (bD (.l .p .q<| .g .p .q) rfl q)));refine Dg ahB ?_;rw [IH SP _];show aR _ A.in1 (Dp (.ref I)>>=_) _ _ s;refine aG (g.item i s _ _ bK j λ v s' N O c=> ?_);obtain ⟨aiU,P,Q⟩:=tc i s j;have j3:=F.trans (K4 P Q λ b o d e=>c.heap b o (by simpa using d) e:e0 s.heap s'.heap)
  have H:mA s'.heap S (ns.take i):=by
   obtain ⟨es,ep,t,e,T⟩:=l;exact ⟨es,ep,t,c.heap S _ D e,T⟩
  have f:i<ns.length:=bx bK (bE C);have U:bt G h0 v (.tup [.int (ns[i]:Nat)]):=by
   obtain ⟨a,e,r⟩:=z.get' (show items.toList[i]? =some v by rw [jz];exact N)
   rw [ff,c4 f] at e;cases e;exact r
  show aR _ A.in1 (IU [v] (setAdd S v)>>=_) _ _ s';refine aG (eb ?_);have V:ns[i]∉ns.take i:=λ c=>by
   have:=B;rw [<- wF i ns,gx] at this;have W:ns[i]∈ns.drop i:=by rw [wD f];exact .head _
   exact this.2.2 _ c _ W rfl
  refine VX (U.stays j3) H V (p _ (jd f)) (λ m c=>p m (Dm c)) (by rw [mj];exact ci (.l .p (.k 50)<| .l (.s .q) .p<| .l .r .q<| .g (.s .r) (.k 50)) rfl M f (oa _ _)) L λ h' tk J u K=> ?_
  rw [<- VZ f] at K;obtain ⟨aiV,X,Y⟩:=H.VY;refine bl ⟨SJ SP _,ih (i+1) _ (dg (hC (.e .p (.s .q)<| .l (.a .r (.s .t)) .u<| .l .u (.a .p .t)<| .g .r .q) rfl ao (bE (ef (bD (.l (.s .p) .q<| .g (.s .p) .q) rfl bK))) (sb _ _)) (hC (.f .p (.s .q)<| .l .r (.a .t (.s .u))<| .l (.a .p .u) .r<| .g .q .t) rfl ao (sb _ _) (bE (ef (bD (.l (.s .p) .q<| .g .p .q) rfl bK))))) bK (g.frame _ s' _ _ O J λ b d o e=> ?_) (j3.trans (K4 X Y λ b o d e=>by rw [u.2 b d];exact e)) K λ Z V7 V8=> ?_⟩
  ·rw [u.2 b (λ h:b=S=>y (by rw [<- h];exact d))];exact e
  ·refine gV Z (Moved.trans g.gtrans ((c.mono E).then_heap J λ b o d e=> ?_) V7) V8;rw [u.2 b (λ h:b=S=>d (by rw [h];exact IV))];exact e
theorem V9 {l:ak} {led:Bool} {g:PySem.Fin->a4->Prop} {ba:cA} (d:s.heap.get? S=some {cls:= .type "set",dict:=none,data:= .set #[] 0 (.fresh 0 0 led)}) (j:s.heap.IsList l items)
  (u:dQ G s.heap items.toList (ns.map λ n=> .tup [.int (n:Nat)])) (v:ns.Nodup) (x:∀m∈ns,m<50) (y:A.handled=none) (z:A.units+40<ee)
  (q:∀h' tk,mA h' S ns->(∀b o,b≠S->s.heap.get? b=some o->h'.get? b=some o)->g (.done (.ret .none)) {s with heap:=h',toks:=tk}):
  aR (aX prog w) A (Builtin.«set.__init__» ⟨[.ref S,.ref l],[]⟩) g ba s:=by
 have k:=j;obtain ⟨B,p,r,P,t⟩:=j;obtain ⟨Q,R,T,U⟩:=B;simp only at r t;subst r;subst t;have V:=PySem.F.sub_list_set;have W:=PySem.F.sub_list_frozenset;have X:(wG "list"==wG "dict")=false:=by decide
 unfold Builtin.«set.__init__» noKeywords akh;generalize C:pyIter=Y
 wp_walk
 subst C;refine SQ k ?_;refine aG (wpAny_runValue ?_);refine V0 (h0:=s.heap) ((Dq (show A.in1.handled=none from y) _ l (e6 (iu p):l≠s.heap.objs.size) items).toS) S
  (λ m=>(dZ.mp m).elim (e6 (iu d):S≠s.heap.objs.size) λ m=>(λ e=>absurd (congrArg Obj.cls (dA (d.symm.trans (e▸p)))) (by simp):S≠l) (b3.mp m):S∉[s.heap.objs.size,l]) (λ i s D=> ?tc) u v x (by simp only [ahC];exact ct (.l (.s (.a .p (.k 40))) (.k 9900)<| .g (.s (.a (.s .p) (.k 20))) (.k 9900)) rfl z) (items.size - 0) 0 _ (rfl) (dz _)
  ⟨⟨_,hc _ rfl,rfl,rfl⟩,(k.push _)⟩ (.of_keep λ a o e=>dP _ e) ?Wb ?gV
 case Wb=>
  exact ⟨_,_,_,dP _ d,.inl rfl,rfl,rfl,rfl,(show 0*5<7*3 by decide),λ e h=>by cases h⟩
 case gV=>
  intro s' c E;obtain ⟨h',F,H,I,J⟩:=s';have K:F=s.gens:=c.gens;have L:H=s.drawn:=c.drawn;have M:J=s.os:=c.os;subst K;subst L;subst M;show aR _ _ _ _ _ _;refine bl ?_;show aR _ _ (ret mh) _ _ _;exact bl (q h' I E λ b o N e=>c.heap b o (λ m=>(dZ.mp m).elim N λ m=>e6 (iu e) (b3.mp m)) (dP _ e))
 case tc=>
  obtain ⟨⟨o,e,O,Z⟩,_⟩:=D;exact ⟨o,e,by rintro (⟨f,_⟩ | ⟨f,_⟩)<;>(rw [O] at f;simp at f)⟩
set_option maxHeartbeats 3200000 in
theorem Wf {l:ak} {Q:cA}
  (j:A.handled=none) (k:s.heap.IsList l items) (p:dQ G s.heap items.toList (ns.map λ n=> .tup [.int (n:Nat)])) (q:ns.Nodup) (t:∀m∈ns,m<50) (u:A.units+60<ee)
  (h:∀(h':a3) (tk:Nat),mA h' s.heap.objs.size ns->
   (∀b o,b<s.heap.objs.size->s.heap.get? b=some o->h'.get? b=some o)->Q (.ref s.heap.objs.size) {s with heap:=h',toks:=tk}):
  aR (aX prog w) A (call (.type "set") [.ref l]) Q E s:=by
 obtain ⟨c,D,F⟩:=uB.mro;have H:=uB.made;have I:=uB.sub;refine wH (SR ?_);show aR _ _ (callAny (.type "set") _) _ _ _;refine bl ⟨SS _ (by decide+kernel),Dg PySem.F.entry_type_call ?_⟩
 rw [Around.under_plain (weight_type_call_type "set" [.ref l] []) rfl];have J:=uB.notType;have K:=uB.canCreate;have L:=PySem.F.typeCall_set_1 (.ref l)
 repeat (any_goals (first | assumption | wp_step))
 refine wI (code_set_new_1 (.ref l) (E:=E) (Q₁:=λ obj b6=>∃led:Bool,obj= .ref s.heap.objs.size∧b6={s with heap:=s.heap.push {cls:= .type "set",dict:=none,data:= .set #[] 0 (.fresh 0 0 led)}}) λ led=>⟨led,rfl,rfl⟩) λ r b6 d=> ?_;cases r with
 | error e=>exact d
 | ok cy=>
  cases cy with
  | ret obj=>
   obtain ⟨led,rfl,rfl⟩:=d;have g:(s.heap.push {cls:= .type "set",dict:=none,data:= .set #[] 0 (.fresh 0 0 led)}).get? s.heap.objs.size=some {cls:= .type "set",dict:=none,data:= .set #[] 0 (.fresh 0 0 led)}:=hc _ rfl;have M:=uB.init.lookup;have N:=uB.init.bind (.ref s.heap.objs.size)
   repeat (any_goals (first | assumption | wp_step))
   refine wI (IW (R:=wants (λ r i=>r= .none∧dB λ h' tk=>i={s with heap:=h',toks:=tk}∧
     mA h' s.heap.objs.size ns∧
     (∀b o,b<s.heap.objs.size->s.heap.get? b=some o->h'.get? b=some o)) E) uB.init.plain PySem.F.entry_set_init (check_set_init_1 (⟨_,g,rfl⟩:IJ {s with heap:=s.heap.push {cls:= .type "set",dict:=none,data:= .set #[] 0 (.fresh 0 0 led)}} (.ref s.heap.objs.size) "set") ?_)) λ v i f=> ?_
   ·exact V9 g (k.push _) (p.stays (.of_keep λ a o e=>dP _ e)) q t (by simp [j]) (by simp only [ahC];exact ct (.l (.s (.a .p (.k 60))) (.k 9900)<| .g (.s (.a (.s (.s .p)) (.k 40))) (.k 9900)) rfl u) λ h' tk a b=>⟨rfl,h',tk,rfl,a,λ x o y e=>b x o (e6 y) (dP _ e)⟩
   ·cases v with
    | error e=>exact f
    | ok z=>
     cases z with
     | ret r=>
      obtain ⟨rfl,h',tk,rfl,B,C⟩:=f
      repeat (any_goals (first | assumption | wp_step))
      exact h _ _ B C
     | _=>exact f.elim
  | _=>exact d.elim
end
section
variable {W:a0} {H:ag} {s:a4} {A:c8} {E:cA} {Q:KE}
theorem Wi (S:b4 W H s) (g:A.handled=none) (h:A.units+60<ee) {x:ak} (e:H x=some (.list (ns.map λ n=> .tup [.int (n:Nat)]))) (i:ns.Nodup) (j:∀m∈ns,m<50) (q:∀c,H c=none->Q (.ref c) (H.upd c (.kX ns.length))):
  aR (aX W.prog W.w) A (call (.type "set") [.ref x]) (dW W H s.heap Q) E s:=by
 obtain ⟨items,n,l,d⟩:=ig S e;refine Wf g ((gT.isList l d).1) d i j h λ h' tk p ao=> ?_;obtain ⟨es,ep,t,r,T⟩:=p;have k:∀a o,s.heap.get? a=some o->h'.get? a=some o:=λ a o e=>ao a o (iu e) e;have b:=T.fits;unfold IP at b;simp only [Dr,decide_eq_true_eq] at b;have f:∀C fs,c5.kX ns.length≠ .inst C fs:=λ C fs e=>(by cases e)
 have c:gH W (H.upd s.heap.objs.size (.kX ns.length)) h' s.heap.objs.size (.kX ns.length):=⟨es,ep,t,r,T.4,by rw [T.3,T.4],b.2⟩
 exact ⟨.ref s.heap.objs.size,H.upd s.heap.objs.size (.kX ns.length),S.heap (S.1.mr (gA _) k f c) tk,bh.mr S.1 _ (gA _) k f c,.ref _,q _ S.1.Al⟩
theorem Wj (S:b4 W H s) {x:ak} (e:H x=some (.kX n)) (hz:n<=lim) (q:Q (.int n) H):aR (aX W.prog W.w) A (call (.builtin "len") [.ref x]) (dW W H s.heap Q) E s:=by
 obtain ⟨es,ep,t,a,J,c,d⟩:=S.1.1 _ _ e;have b:(16000000:Int)<2^63:=by decide
 refine call_len_set a ⟨rfl,rfl,rfl⟩ rfl (by unfold IP;simp [J,c,d]) (by rw [J];exact wk (mf.mpr hz) b) ?_
 rw [J];exact hn S _ (.int _ _) q
end
end
section
section
variable {W:a0} {H:ag} {s:a4} {A:c8} {E:cA} {Q:KE}
theorem rl {x:ak} (h:dQ W.G s.heap vs [.ref x]):vs=[.ref x]:=h.one.elim λ u z=>z.1.trans (congrArg (λ u=>[u]) z.2.inv)
theorem Wk (K:dR W) (S:b4 W H s) (d:A.handled=none) {g:aP} (p:A.units+70<ee) (b:dQ W.G s.heap vs as) (h:ie H Q g as):
  aR (aX W.prog W.w) A (call (q6 g) vs) (dW W H s.heap Q) E s:=by
 induction h with
 | JU hz q=>obtain ⟨u,rfl,r⟩:=b.one;exact Vh S r hz q
 | JV c hz q=>exact rl b▸Vg S c hz q
 | JW c hz q=>exact rl b▸Wj S c hz q
 | JX _ q=>
  obtain ⟨u,rfl,r⟩:=b.one;exact r.inv.elim λ t e=>e▸call_range_1 (q3 S _ (λ a o e=>dP _ e) (.ic (ahD _ _ _ _ _ _ _)) q)
 | JY _ _ q=>
  obtain ⟨u,v,rfl,r,j⟩:=b.two;exact r.inv.elim λ t e=>j.inv.elim λ t2 k=>e▸k▸call_range_2 (q3 S _ (λ a o e=>dP _ e) (.ic (ahD _ _ _ _ _ _ _)) q)
 | JZ c hz q=>exact rl b▸UL S c hz q
 | J0 c hz q=>exact rl b▸UJ S d c hz q
 | J1 hz q=>obtain ⟨u,rfl,r⟩:=b.one;exact UM S r hz q
 | listS hz q=>obtain ⟨u,rfl,r⟩:=b.one;exact r.inv.elim λ t e=>e▸UK S d hz q
 | tup c hz q=>exact rl b▸UN S c hz q
 | dict hz J l q=>obtain ⟨u,rfl,r⟩:=b.one;exact Vr (K.size S.1) S (bF (a9 (pl (by decide:40<=70) _) p)) d r J l hz q
 | J2 c f n q=>exact rl b▸Vd S c n f q
 | J3 c f q=>exact rl b▸Vf S d c f q
 | J4 f n q=>obtain ⟨u,rfl,r⟩:=b.one;exact Ve S r n f q
 | int q=>obtain ⟨u,rfl,r⟩:=b.one;exact r.inv.elim λ t e=>e▸call_int_int (jh S (.int _ _) q)
 | @str i h q=>
  obtain ⟨u,rfl,r⟩:=b.one;refine r.inv.elim λ t e=>e▸P.str_of_int ?_ (hn S _ (.str _ _) q)
  by_cases e:i.natAbs=0
  ·rw [e];decide
  ·exact bB (m:=30) (su ((Nat.log2_lt e).mpr (bX h (by decide:10^9<2^30)))) (by decide)
 | max q=>
  obtain ⟨u,v,rfl,r,j⟩:=b.two;exact r.inv.elim λ t e=>j.inv.elim λ t2 k=>e▸k▸Vi S d q
 | set c J l q=>exact rl b▸Wi S d (a9 (pl (by decide:60<=70) _) p) c J l q
end
end
section
structure bq where
 scope:ia
 names:bZ
noncomputable def bq.kind (c:bq) (x:aW):Option qI:=c.scope.names.lookup x
noncomputable def bq.of (sc:ia):bq:=⟨sc,(sc.names.filter λ n=>n.1 !=(".0":aW)&&(n.2== .local||n.2== .cell||n.2== .free)).map (·.1)⟩
noncomputable def isVar (c:bq) (x:aW):Bool:=c.kind x==some .local||c.kind x==some .cell
inductive Var (c:bq) (x:aW) (i:Nat):Prop
 | mk (at_:c.names[i]? =some x)
noncomputable def u7 (c:bq) (x:aW):Option {i:Nat//Var c x i}:=match e:c.names.idxOf? x with
 | some i=>some ⟨i,⟨by
   rw [List.idxOf?] at e;obtain ⟨a,b,_⟩:=List.findIdx?_eq_some_iff_getElem.mp e;rw [c4 a,beq_iff_eq.mp b]⟩⟩
 | none=>none
inductive Own (W:a0) (H:ag) (h:a3) (a:ak):Prop
 | mk (z:W.h0.get? a=none) (nm:¬d2 H h a) (o:dq) (aH:h.get? a=some o) (aC:∀hR n,o.data≠ .seq hR n) (hf:∀vs,o.data≠ .fields vs)
def Pv (env:b0):ak->Prop:=λ a=>a=env.locals∨∃x,env.cells.lookup x=some a
inductive AU (W:a0) (env:b0) (H:ag) (x:aW) (o:Option (Option ai)) (h:a3):Prop
 | mk (ca:ak) (v:Option aE) (e:env.cells.lookup x=some ca) (ai9:h.IsCell ca v) (own:Own W H h ca) (val:∀bg,o=some (some bg)->∃u,v=some u∧bt W.G h u bg)
inductive AV (W:a0) (c:bq) (env:b0) (l:cq) (h:a3):Prop
 | mk (m:aW->Option aE) (ns:h.Ns env.locals m) (val:∀(i:Nat) x bg,c.names[i]? =some x->c.kind x=some .local->l[i]? =some (some bg)->∃v,m x=some v∧bt W.G h v bg)
noncomputable abbrev dU (W:a0) (c:bq) (env:b0) (H:ag) (l:cq) (h:a3):Prop:=eT (env.scope=c.scope) (env.scope.kind= .function) (env.globals=W.gl) (env.builtins=zv) (l.length=c.names.length) (eT (c.names.Nodup) (∀x∈c.names,c.kind x=some .local∨c.kind x=some .cell) (∀x y a,env.cells.lookup x=some a->env.cells.lookup y=some a->x=y) (∀x a,env.cells.lookup x=some a->x∈c.names∧c.kind x=some .cell) (AV W c env l h) (A2 (∀(i:Nat) x,c.names[i]? =some x->c.kind x=some .cell->AU W env H x l[i]? h) (Own W H h env.locals)))
section
variable {W:a0} {H aa:ag} {h h':a3} {P:ak->Prop}
theorem Own.keep {a:ak} (x:Own W H h a) (k:bh W P H h aa h') (b:¬P a):Own W aa h' a:=by
 obtain ⟨a1,bA,o,c,d,e⟩:=x;have nm:¬d2 aa h' a:=λ m=>(k.2 a b m).elim bA λ q=>no (q.symm.trans c);cases k.1 a o c bA b with
 | s q=>exact ⟨a1,nm,_,q,d,e⟩
 | f _ _ cZ q=>exact ⟨a1,nm,_,q,d,e⟩
theorem Own.none {a:ak} (x:Own W H h a) (S:bW W H h):H a=sr:=by
 obtain ⟨a1,bA,o,b,c,_⟩:=x;refine kO.mpr λ bT e=> ?_;cases bT with
 | gG xs=>
  obtain ⟨items,⟨bw,d,_,n,f⟩,_⟩:=S.1 _ _ e;exact c _ _ (dC d b▸f)
 | _=>exact bA (.o _ e trivial)
theorem Own.mD {a:ak} (x:Own W H h a):∀o,h.get? a=some o->¬Still o:=by
 obtain ⟨_,_,bw,b,J,c⟩:=x;exact λ o e s=>(dC e b▸s:Still bw).TT J c
theorem Own.same {a:ak} (x:Own W H h a) (k:bh W P H h aa h') (c:¬P a):∃o,h.get? a=some o∧qT W a o h':=by
 obtain ⟨a1,bA,o,b,hd⟩:=x;exact ⟨o,b,k.1 a o b bA c⟩
theorem Own.step {a:ak} (x:Own W H h a) (S:bW W H h) (k:∀b o,b≠a->h.get? b=some o->h'.get? b=some o):eB W cT (· =a) H h H h':=by
 have c:=x.none S;have st:=x.mD;obtain ⟨z,nm,_⟩:=x;exact .off (λ b o d=>d▸st o) (λ b d=>d▸z) (λ b d=>d▸nm) (λ b d=>d▸c) k
noncomputable abbrev ny (W:a0) (a:ak) (H:ag) (h h':a3):Prop:=iV (bW W H h') (bh W (· =a) H h H h') (¬d2 H h' a) (e0 h h')
theorem eB.wrote {a:ak} (s:eB W cT (· =a) H h H h') (S:bW W H h) (nm:¬d2 H h a):ny W a H h h':=
 ⟨s.sim S,s.keep S (λ _ d=> .inr d) (λ _ d=>d.elim) (λ _ _ d=>d.elim) (λ _ d=> .inl d) λ _ _ d=>d.elim,λ m=>nm (by cases m with
  | o o e m=>exact .o o e m
  | d x q=>exact .d x (s.own S cT.not q)),s.stays⟩
theorem Own.write {a:ak} (x:Own W H h a) (S:bW W H h) (k:∀b o,b≠a->h.get? b=some o->h'.get? b=some o):ny W a H h h':=(x.step S k).wrote S (by obtain ⟨_,nm,_⟩:=x;exact nm)
theorem Ns.same {a:ak} {o:dq} (n:h.Ns a m) (e:h.get? a=some o) (s:qT W a o h'):h'.Ns a m:=by
 obtain ⟨bw,es,ep,b,r⟩:=n;obtain rfl:=dC e b;cases s with
 | s q=>exact ⟨_,es,ep,q,r⟩
 | f _ _ cZ q=>exact ⟨_,es,ep,q,r⟩
theorem IsCell.same {a:ak} {v:Option aE} {o:dq} (n:h.IsCell a v) (e:h.get? a=some o) (s:qT W a o h'):h'.IsCell a v:=by
 obtain ⟨bw,b,r⟩:=n;obtain rfl:=dC e b;cases s with
 | s q=>exact ⟨_,q,r⟩
 | f _ _ cZ q=>exact ⟨_,q,r⟩
theorem AV.keep (x:AV W c env l h) (o:Own W H h env.locals) (k:bh W P H h aa h') (d:¬P env.locals) (st:e0 h h'):AV W c env l h':=by
 obtain ⟨m,e,f⟩:=x;obtain ⟨o,g,s⟩:=o.same k d;exact ⟨m,Ns.same e g s,λ i x bg a b c=>(f i x bg a b c).elim λ v z=>⟨v,z.1,z.2.stays st⟩⟩
theorem AU.keep {x:aW} {o:Option (Option ai)} (y:AU W env H x o h) (k:bh W P H h aa h') (c:∀a,env.cells.lookup x=some a->¬P a) (st:e0 h h'):AU W env aa x o h':=by
 obtain ⟨b,v,a1,a2,bA,cW⟩:=y;obtain ⟨o,d,s⟩:=bA.same k (c b a1);exact ⟨b,v,a1,IsCell.same a2 d s,bA.keep k (c b a1),λ bg e=>(cW bg e).elim λ u z=>⟨u,z.1,z.2.stays st⟩⟩
theorem dU.u9 (R:dU W c env H l h) (k:bh W P H h aa h') (b:¬P env.locals) (d:∀x a,env.cells.lookup x=some a->¬P a) (st:e0 h h'):dU W c env aa l h':=
 ⟨R.1,R.2,R.3,R.4,R.5,R.6.1,R.6.2,R.6.3,R.6.4,R.6.5.keep R.6.6.2 k b st,λ i x e ao=>(R.6.6.1 i x e ao).keep k (d x) st,R.6.6.2.keep k b⟩
theorem dU.keep (R:dU W c env H l h) (S:bW W H h) (k:bh W cT H h aa h'):dU W c env aa l h':=R.u9 k id (λ _ _ _=>id) (k.kZ S)
theorem dU.weaken (R:dU W c env H l h) (d:a7.length=l.length) (k:∀(i:Nat) bg,a7[i]? =some (some bg)->l[i]? =some (some bg)):dU W c env H a7 h:=by
 refine ⟨R.1,R.2,R.3,R.4,d.trans R.5,R.6.1,R.6.2,R.6.3,R.6.4,?_,λ i x f ao=> ?_,R.6.6.2⟩
 ·obtain ⟨m,g,j⟩:=R.6.5;exact ⟨m,g,λ i x bg a b c=>j i x bg a b (k _ _ c)⟩
 ·obtain ⟨n,v,a1,a2,bA,cW⟩:=R.6.6.1 i x f ao;exact ⟨n,v,a1,a2,bA,λ bg e=>cW bg (k _ _ e)⟩
theorem dU.aI {env:b0} {l:cq} (R:dU W c env H l h):∀x a,env.cells.lookup x=some a->∃v,h.IsCell a v:=λ x a e=>by
 have b:=R.6.4 x a e;obtain ⟨i,d⟩:=oh b.1;obtain ⟨f,v,a1,a2,_⟩:=R.6.6.1 i x d b.2;exact ⟨v,dC a1 e▸a2⟩
theorem dU.gW (R:dU W c env H l h) {a:ak} (p:Pv env a):∃o,h.get? a=some o∧¬Still o:=by
 rcases p with rfl | ⟨x,b⟩
 ·obtain ⟨_,_,o,d,_⟩:=R.6.6.2;exact ⟨o,d,R.6.6.2.mD o d⟩
 ·have e:=R.6.4 x a b;obtain ⟨i,g⟩:=oh e.1;obtain ⟨j,v,a1,⟨o,f,_⟩,bA,_⟩:=R.6.6.1 i x g e.2;obtain rfl:=dC a1 b;exact ⟨o,f,bA.mD o f⟩
theorem j1.keep (x:j1 W fr H h) (k:bh W P H h aa h') (c:∀env∈fr,∀L,env.frame=some L->¬P L):j1 W fr aa h':=by
 intro env b;have aD:=x env b;obtain ⟨L,o,a⟩:=aD.2;have a2:=a.1;have cW:=a.2.2.1;have d:=a.2.2.2.2;have nm:¬d2 aa h' L:=λ m=>(k.2 L (c env b L a2) m).elim d λ q=>no (q.symm.trans cW);cases k.1 L o cW d (c env b L a2) with
 | s q=>exact ⟨aD.1,L,o,a2,a.2.1,q,a.2.2.2.1,nm⟩
 | f _ _ cZ q=>exact ⟨aD.1,L,_,a2,a.2.1,q,a.2.2.2.1,nm⟩
theorem ow.keep (x:ow W r A fr H h) (k:bh W cT H h aa h'):ow W r A fr aa h':=
 ⟨x.1,x.2,x.3,x.4,x.5.keep k λ _ _ _ _=>id⟩
end
noncomputable abbrev At (W:a0) (r:Nat) (c:bq) (env:b0) (A:c8) (fr:List b0) (l:cq) (H:ag) (s:a4):Prop:=gR (ow W r A fr H s.heap) (b4 W H s) (dU W c env H l s.heap)
section
variable {W:a0} {r:Nat} {c:bq} {env:b0} {A:c8} {fr:List b0} {l:cq} {H aa:ag} {s s':a4}
theorem At.move (X:At W r c env A fr l H s) (S:b4 W aa s') (k:bh W cT H s.heap aa s'.heap):At W r c env A fr l aa s':=
 ⟨X.1.keep k,S,X.3.keep X.2.1 k⟩
theorem At.tok (X:At W r c env A fr l H s) (t:Nat):At W r c env A fr l H {s with toks:=t}:=X.move (X.2.tok t) (bh.refl ..)
theorem At.units (X:At W r c env A fr l H s):A.units+70<ee:=bx (wt (by decide:70<300) _) (J8 X.1)
theorem At.EV (X:At W r c env A fr l H s):A.units+20<=ee:=bB (pl (by decide:20<=300) _) (J8 X.1)
theorem dW.from {v:aE} {J:a3} (k:bh W cT gq h0 H J) (x:dW W H J Q v s'):dW W gq h0 Q v s':=by
 obtain ⟨bg,aa,a,b,c,d⟩:=x;exact ⟨bg,aa,a,k.trans b,c,d⟩
inductive Wl (W:a0) (d3:ag) (h₀:a3) (Q:aV->ag->Prop) (vs:cH) (s':a4):Prop
 | mk (dm:aV) (aa:ag) (S:b4 W aa s') (k:bh W cT d3 h₀ aa s'.heap) (r:dQ W.G s'.heap vs dm) (q:Q dm aa)
inductive td (W:a0) (d3:ag) (h₀:a3) (Q:Bool->ag->Prop) (b:Bool) (s':a4):Prop
 | mk (aa:ag) (S:b4 W aa s') (k:bh W cT d3 h₀ aa s'.heap) (q:Q b aa)
theorem td.from {Q:Bool->ag->Prop} {v:Bool} {J:a3} (k:bh W cT gq h0 H J) (x:td W H J Q v s'):td W gq h0 Q v s':=by
 obtain ⟨aa,a,b,d⟩:=x;exact ⟨aa,a,k.trans b,d⟩
theorem dU.kindOf (R:dU W c env H l h) (x:aW):env.kindOf x=c.kind x:=by unfold SU bq.kind;rw [R.1]
theorem AW (X:At W r c env A fr l H s) {x:aW} {i:Nat} (a:Var c x i) (q:xb i l λ v=>Q v H):
  aR (aX W.prog W.w) A (zI env x) (dW W H s.heap Q) E s:=by
 have ao:=X.3.kindOf x;have b:=X.3.6.6.1 i x a.1;obtain ⟨m,e,f⟩:=X.3.6.5;have d:=λ bg=>f i x bg a.1;unfold xb at q;revert q b d;generalize l[i]? =o;intro q b d;cases o with
 | none=>exact q.elim
 | some o=>cases o with
 | none=>exact q.elim
 | some bg=>
  exact (X.3.6.2 x (cY a.1)).elim (λ k=>(d bg k rfl).elim λ v z=>IX X.3.2 (ao.trans k) e z.1 (jh X.2 z.2 q)) λ k=>by
   obtain ⟨h,v,a1,a2,bA,cW⟩:=b k;obtain ⟨u,rfl,g⟩:=cW bg rfl;exact wpAny_loadName_cell X.3.2 (ao.trans k) a1 a2 (jh X.2 g q)
theorem xq (K:dR W) (X:At W r c env A fr l H s) {x:aW} {Q:cA} (ao:c.kind x=some .globalImplicit) (d:nj W x u) (q:Q u s):
  aR (aX W.prog W.w) A (zI env x) Q E s:=by
 rw [SV X.3.2 ((X.3.kindOf x).trans ao)];have b:=bW.ji (s:=s) K X.2.1;unfold SW;rw [X.3.3,X.3.4];rcases d with a | ⟨a,jF,f,g⟩
 ·exact aG ((zJ b a).here (bl q))
 ·refine aG ((zJ b a).here (aG ?_));obtain ⟨o,es,ep,e,r⟩:=f;refine SX ⟨o,es,ep,X.2.1.2 _ _ e,r⟩ ?_;rw [g];exact bl q
theorem ij {m:Sem aE} {Q:cA} {e:KE} (X:At W r c env A fr l H s) (h:aR (aX W.prog W.w) A m (dW W H s.heap e) E s)
  (k:∀v s1 bg H1,At W r c env A fr l H1 s1->bh W cT H s.heap H1 s1.heap->bt W.G s1.heap v bg->e bg H1->Q v s1):aR (aX W.prog W.w) A m Q E s:=
 cL h (λ v s1 x=>by obtain ⟨bg,H1,a,b,c,d⟩:=x;exact k v s1 bg H1 (X.move a b) b c d) λ _ _ x=>x
theorem nA {α:Type} {m:Sem aE} {f:aE->Sem α} {Q:α->a4->Prop} {a:KE} (X:At W r c env A fr l H s) (h:aR (aX W.prog W.w) A m (dW W H s.heap a) E s)
  (k:∀v s1 bg H1,At W r c env A fr l H1 s1->bh W cT H s.heap H1 s1.heap->bt W.G s1.heap v bg->a bg H1->aR (aX W.prog W.w) A (f v) Q E s1):aR (aX W.prog W.w) A (m>>=f) Q E s:=aG (ij X h k)
theorem va {α:Type} {m:Sem Bool} {f:Bool->Sem α} {Q:α->a4->Prop} {e:Bool->ag->Prop} (X:At W r c env A fr l H s) (h:aR (aX W.prog W.w) A m (td W H s.heap e) E s)
  (k:∀v s1 H1,At W r c env A fr l H1 s1->bh W cT H s.heap H1 s1.heap->e v H1->aR (aX W.prog W.w) A (f v) Q E s1):aR (aX W.prog W.w) A (m>>=f) Q E s:=
 aG (cL h (λ v s1 x=>by obtain ⟨H1,a,b,d⟩:=x;exact k v s1 H1 (X.move a b) b d) λ _ _ x=>x)
end
end
section
inductive xr:aW->kl->Prop
 | b (m:k4):xr m.str (.b m)
 | o {x C g}:u0.lookup x=some (C,g)->xr x (.o C g)
noncomputable def kl.val (W:a0):kl->aE
 | .b m=> .builtin m.id
 | .o _ g=>W.G g
noncomputable def Wm:List k4:=[.append,.extend,.pop,.index,.get,.k6]
noncomputable def Wn (x:aW):Option {m:kl//xr x m}:=match e:u0.lookup x with
 | some (C,g)=>some ⟨.o C g,.o e⟩
 | none=>match e:Wm.find? (λ m=>m.str==x) with
  | some m=>some ⟨.b m,beq_iff_eq.mp (SO (p:=λ m:k4=>m.str==x) e)▸.b m⟩
  | none=>none
theorem Wo {a:ai} {k:w8} (h:As H a=some k):dB λ x bT=>a= .ref x∧H x=some bT∧bT.j0=some k:=by
 cases a<;>first | exact no h | skip
 obtain ⟨bT,J,b⟩:=SY.mp h;exact ⟨_,bT,rfl,J,b⟩
theorem kd_list (h:bT.j0=some .list):∃xs,bT= .list xs:=by
 cases bT<;>first | exact ⟨_,rfl⟩ | exact no h | exact (by cases h)
theorem Lb (h:bT.j0=some .dict):dB λ sh es=>bT= .dict sh es:=by
 cases bT<;>first | exact ⟨_,_,rfl⟩ | exact no h | exact (by cases h)
theorem Wp {C:aP} (h:bT.j0=some (.inst C)):∃fs,bT= .inst C fs:=by
 cases bT<;>first | exact no h | (cases h;done) | (cases h;exact ⟨_,rfl⟩)
def Kept (W:a0) (f:aE):Prop:=∀h,W.K.In h->∃k,(k=Keeper.frame∨k=Keeper.machine∨k=Keeper.boundFrame)/\ uw (aX W.prog W.w) h (keeperOf f) k
theorem Wq:∀g:aP,g.builtin=true->∀{M:wC} {h:a3},uw M h (keeperOf (q6 g)) .machine:=by
 intro g e M h;have:∀i:Nat,keeperOf (q6 (49+i))=pure .machine:=λ i=>by
  match i with
  | 0 | 1 | 2 | 3 | 4 | 5 | 6 | 7 | 8=>rfl
  | i+9=>unfold q6;rw [eS,qD (by simp)];rfl
 rw [<- Nat.add_sub_cancel' (agG e)];exact zC (this _)
theorem AX (K:dR W) (g:aP):Kept W (W.G g):=λ h X=>by
 cases e:g.builtin with
 | false=>exact keeps_K (K.6.1 g e) h X
 | true=>exact ⟨.machine,.inr (.inl rfl),K.5 g e▸Wq g e⟩
theorem Wr (K:dR W) (m:kl):Kept W (m.val W):=by
 cases m with
 | b m=>exact λ h _=>⟨.machine,.inr (.inl rfl),zC rfl⟩
 | o _ g=>exact AX K g
section
variable {W:a0} {r:Nat} {c:bq} {env:b0} {A:c8} {fr:List b0} {l:cq} {H:ag} {s:a4} {E:cA}
theorem Lc {g:aP} (X:At W r c env A fr l H s) (a:dQ W.G s.heap vs as) (h:dw W r g as H Q rn)
  (b:∀e s',nh W cT H s.heap fr rn e s'->E e s'):aR (aX W.prog W.w) A (call (W.G g) vs) (dW W H s.heap Q) E s:=
 wH (wI (h A fr s vs X.1 X.2 a) λ d s' y=>by
  rcases d with e | (v | _ | _ | _)
  ·exact b _ _ y
  all_goals exact y)
theorem call_of (K:dR W) (X:At W r c env A fr l H s) {g:aP} (a:dQ W.G s.heap vs as) (h:pG W r rn g as H Q)
  (b:∀e s',nh W cT H s.heap fr rn e s'->E e s'):aR (aX W.prog W.w) A (call (W.G g) vs) (dW W H s.heap Q) E s:=by
 unfold pG at h;cases e:g.builtin with
 | true=>rw [e] at h;exact K.5 g e▸Wk K X.2 X.1.3 X.units a h
 | false=>rw [e] at h;exact Lc X a h b
theorem Ws (X:At W r c env A fr l H s) {a:ai} {m:kl} (d:bt W.G s.heap u a) (f:dQ W.G s.heap vs as) (h:Au W r rn a m as H Q)
  (i:∀e s',nh W cT H s.heap fr rn e s'->E e s'):aR (aX W.prog W.w) A (call (m.val W) (u::vs)) (dW W H s.heap Q) E s:=by
 cases m with
 | b m=>
  obtain ⟨x,rfl,h⟩:=h;exact (show u= .ref x from d.inv)▸UH X.2 X.EV f h
 | o _ g=>exact Lc X (.cons d f) h i
theorem Wt (K:dR W) (X:At W r c env A fr l H s) {a:ai} {x:aW} {m:kl} {gC:Sem Bool} {Q:aE×cH->a4->Prop} (i:xr x m) (j:bt W.G s.heap u a) (p:As H a=some m.j0)
  (q:Q (m.val W,[u]) s):aR (aX W.prog W.w) A (uC u x gC) Q E s:=by
 obtain ⟨y,bT,rfl,h,ao⟩:=Wo p;obtain rfl:u= .ref y:=j.inv;cases i with
 | o e=>
  obtain ⟨fs,rfl⟩:=Wp ao;obtain ⟨d,I,_⟩:=X.2.1.1 _ _ h;obtain ⟨cl,dT,t,mm,aI,w,hd,B,C,F⟩:=I.at;obtain ⟨k1,k2,k3,G⟩:=K.6.2 _ _ _ e;have k:=K.1 _ cl k1 aI;obtain ⟨R,J,L,M⟩:=G cl aI;exact method_fn (bW.ji (s:=s) K X.2.1) w k.1 k.2 L M (by show (lookIn x t).map _=_;rw [AD C B,(kO.mpr λ v e=>(F.2 _ _ e).elim λ f z=>k2 f z.1:mm x=sr)];rfl) (J▸q)
 | b m=>
  have go:∀{T:String},s.TypeIs (.ref y) T->PlainAttrs T->Slot T m.str m.id->zB (.builtin m.id)=pure (.type "method_descriptor")->(∃o,s.heap.get? y=some o/\ o.dict=none)->aR (aX W.prog W.w) A (uC (.ref y) m.str gC) Q E s:=
   λ N O s1 P g=>getMethod_builtin N O s1 P (λ a e=>by cases e;exact g) q
  cases m
  case get=>
   obtain ⟨sh,es,rfl⟩:=Lb ao;obtain ⟨_,_,D⟩:=X.2.1.1 _ _ h;exact go ⟨_,D.1,rfl⟩ ahE aha PySem.F.type_dict_get ⟨_,D.1,rfl⟩
  case k6=>
   obtain ⟨sh,es,rfl⟩:=Lb ao;obtain ⟨_,_,D⟩:=X.2.1.1 _ _ h;exact go ⟨_,D.1,rfl⟩ ahE ahb PySem.F.type_dict_setdefault ⟨_,D.1,rfl⟩
  all_goals
   obtain ⟨xs,rfl⟩:=kd_list ao;obtain ⟨items,n,g,_⟩:=ig X.2 h
  ·exact go ⟨_,g,rfl⟩ IY Sp PySem.F.type_list_append ⟨_,g,rfl⟩
  ·exact go ⟨_,g,rfl⟩ IY ag7 PySem.F.type_list_extend ⟨_,g,rfl⟩
  ·exact go ⟨_,g,rfl⟩ IY ag8 PySem.F.type_list_pop ⟨_,g,rfl⟩
  ·exact go ⟨_,g,rfl⟩ IY ag4 PySem.F.type_list_index ⟨_,g,rfl⟩
end
end
section
noncomputable def isIt:aE->Bool
 | .type n=>["list_iterator","tuple_iterator","range_iterator","dict_keyiterator"].contains n
 | _=>false
inductive hO (W:a0) (I:ak) (H:ag) (h:a3):Prop
 | mk (z:W.h0.get? I=none) (nm:¬d2 H h I) (o:dq) (vs:Array aE) (aH:h.get? I=some o) (hd:o.data= .fields vs) (aI:isIt o.cls=true)
structure Iter (W:a0) (I:ak) (xs:aV) (ok:ag->Prop) (St:Nat->a3->Prop):Prop where
 item:∀(A:c8) (i:Nat) (a:ai) (H:ag) (s:a4) (E:cA) (Q:Option aE->a4->Prop),A.handled=none->b4 W H s->ok H->hO W I H s.heap->St i s.heap->xs[i]? =some a->
  (∀v h' t,bt W.G h' v a->ny W I H s.heap h'->hO W I H h'->St (i+1) h'->Q (some v) {s with heap:=h',toks:=t})->aR (aX W.prog W.w) A (Dp (.ref I)) Q E s
 done:∀(A:c8) (H:ag) (s:a4) (E:cA) (Q:Option aE->a4->Prop),A.handled=none->b4 W H s->ok H->hO W I H s.heap->St xs.length s.heap->
  (∀h' t,ny W I H s.heap h'->Q none {s with heap:=h',toks:=t})->aR (aX W.prog W.w) A (Dp (.ref I)) Q E s
 self:∀(A:c8) (i:Nat) (s:a4) (E:cA) (Q:cA),St i s.heap->Q (.ref I) s->aR (aX W.prog W.w) A (pyIter (.ref I)) Q E s
 move:∀(i:Nat) (h h':a3),St i h->e0 h h'->(∀o,h.get? I=some o->h'.get? I=some o)->St i h'
section
variable {W:a0} {H aa:ag} {h h':a3} {I:ak} {P:ak->Prop}
theorem Ld {v:aE} (h:isIt v=true):v≠ .type "tuple"∧v≠ .type "range":=⟨λ e=>absurd (e▸h) (by decide),λ e=>absurd (e▸h) (by decide)⟩
theorem hO.mD (x:hO W I H h):∀o,h.get? I=some o->¬Still o:=by
 refine eo λ b=> ?_;obtain ⟨_,_,bw,vs,c,d,a⟩:=x;refine b ?_;exact λ o e s=>(dC e c▸s:Still bw).cls rfl (Ld a).1 (Ld a).2
theorem hO.none (x:hO W I H h) (S:bW W H h):H I=sr:=by
 obtain ⟨a1,a2,o,vs,a,hd,aI⟩:=x;refine kO.mpr λ bT e=> ?_;cases bT with
 | gG xs=>
  obtain ⟨items,⟨bw,b,_,n,c⟩,_⟩:=S.1 _ _ e;exact e4 (hd.symm.trans (dC b a▸c))
 | _=>exact a2 (.o _ e trivial)
theorem hO.same (x:hO W I H h) (k:bh W P H h aa h') (b:¬P I):∀o,h.get? I=some o->h'.get? I=some o:=by
 refine eo λ d=> ?_;obtain ⟨a1,a2,o,vs,a,hd,aI⟩:=x;refine d ?_;intro bw e;cases k.1 I o a a2 b with
 | s q=>exact dC a e▸q
 | f c=>exact c.elim λ _ _ c=>e4 (hd.symm.trans c)
theorem hO.keep (x:hO W I H h) (k:bh W P H h aa h') (a:¬P I):hO W I aa h':=by
 have c:=x.same k a;obtain ⟨a1,a2,o,vs,b,hd,aI⟩:=x;exact ⟨a1,λ m=>(k.2 I a m).elim a2 λ q=>no (q.symm.trans b),o,vs,c o b,hd,aI⟩
theorem hO.write (x:hO W I H h) (S:bW W H h) (k:∀b o,b∉[I]->h.get? b=some o->h'.get? b=some o):ny W I H h h':=by
 have a:=x.none S;have st:=x.mD;obtain ⟨z,nm,_⟩:=x;exact (eB.off (D:=(· =I)) (λ b o d=>d▸st o) (λ b d=>d▸z) (λ b d=>d▸nm) (λ b d=>d▸a) λ b o n=>k b o λ m=>n (b3.mp m)).wrote S nm
theorem hO.next (x:hO W I H h) (w:ny W I H h h') {o:dq} {vs:Array aE} (a:h'.get? I=some o) (hd:o.data= .fields vs) (aI:isIt o.cls=true):hO W I H h':=by
 obtain ⟨z,_⟩:=x;exact ⟨z,w.3,o,vs,a,hd,aI⟩
variable {s:a4} {A:c8} {E:cA}
theorem Wu {x:ak} (g:x≠I):Iter W I xs (λ aa=>aa x=some (.list xs)) (λ i h=>h.IsListIter I x i) where
 item:=λ A i a H s E Q d S ok off st e q=>by
  obtain ⟨items,n,b,c⟩:=ig S ok;obtain ⟨v,f,j⟩:=c.get e;rw [jz] at f;refine (Dq (A:=A) d I x g items).item i s _ _ (It.mp f).1 ⟨st,(gT.isList b c).1⟩ λ u h' t l st' ao=> ?_;have w:=off.write S.1 ao;obtain ⟨o,b,aI,hd⟩:=id st'.1;exact q u h' t (dC f l▸j.stays w.4) w (off.next w b hd (aI▸rfl)) st'.1
 done:=λ A H s E Q d S ok off st q=>by
  obtain ⟨items,n,b,c⟩:=ig S ok;exact (Dq (A:=A) d I x g items).done s _ _ ((gT.isList b c).2▸⟨st,(gT.isList b c).1⟩) λ h' t ao=>q h' t (off.write S.1 ao)
 self:=λ A i s E Q st q=>wpAny_pyIter_listiter st q
 move:=λ i h h' st _ k=>by obtain ⟨o,b,r⟩:=st;exact ⟨o,k o b,r⟩
theorem Wv {x:ak} {items:Array aE} (g:x≠I):Iter W I xs (λ _=>True) (λ i h=>h.IsTupleIter I x i∧h.IsTuple x items∧dQ W.G h items.toList xs) where
 item:=λ A i a H s E Q b S ok off st e q=>by
  refine eo λ c=> ?_;obtain ⟨v,d,l⟩:=st.2.2.get e;refine c ?_;rw [jz] at d;refine (II (A:=A) b I x g items).item i s _ _ (It.mp d).1 ⟨st.1,st.2.1⟩ λ u h' t m st' ao=> ?_;have w:=off.write S.1 ao;obtain ⟨o,f,aI,hd⟩:=id st'.1;exact q u h' t (dC d m▸l.stays w.4) w (off.next w f hd (aI▸rfl)) ⟨st'.1,st'.2,st.2.2.stays w.4⟩
 done:=λ A H s E Q b S ok off st q=>(II (A:=A) b I x g items).done s _ _ ((show items.size=xs.length from st.2.2.length)▸⟨st.1,st.2.1⟩) λ h' t ao=>q h' t (off.write S.1 ao)
 self:=λ A i s E Q st q=>wpAny_pyIter_tupleiter st.1 q
 move:=λ i h h' st j k=>by
  refine eo λ c=> ?_;obtain ⟨⟨o,f,r⟩,⟨bw,p,aI,n,hd⟩,y⟩:=st;refine c ?_;exact ⟨⟨o,k o f,r⟩,⟨bw,j _ _ p (.inl ⟨aI,_,_,hd⟩),aI,n,hd⟩,y.stays j⟩
theorem Ww {lo:Int}:Iter W I ((cg n).map λ i=> .int (lo+(i:Nat))) (λ _=>True) (λ i h=>IsRangeIter h I (lo+(i:Nat)*1) ((n:Int) - (i:Nat)) 1) where
 item:=λ A i a H s E Q c S ok off st e q=>by
  rw [ff] at e;obtain ⟨j,b,rfl⟩:=iv.mp e;obtain ⟨bK,b⟩:=cF.mp b;rw [gy] at bK;rw [De] at b;subst b;refine (ahF (A:=A) c I lo 1 n).item i s _ _ bK st λ u h' t d st' ao=> ?_;obtain ⟨tk,rfl⟩:=d;have w:=off.write S.1 ao;exact q _ h' t ((congrArg (lo+ ·) (Int.mul_one (i:Int))).symm▸.int _ _) w (off.next w st' rfl rfl) st'
 done:=λ A H s E Q c S ok off st q=>(ahF (A:=A) c I lo 1 n).done s _ _ (by rw [cz,gy] at st;exact st) λ h' t ao=>q h' t (off.write S.1 ao)
 self:=λ A i s E Q st q=>wpAny_pyIter_rangeiter st q
 move:=λ i h h' st _ k=>k _ st
theorem Wx {es:List (ai×ai)} (m:d≠I):Iter W I (es.map (·.1)) (λ aa=>∃es',aa d=some (.dict .int es')∧es'.map (·.1)=es.map (·.1)) (λ i h=>h.IsKeyIter I d i es.length es.length) where
 item:=λ A i a H s E Q c S ok off st e q=>by
  obtain ⟨es',ok,b⟩:=ok;have f:es'.length=es.length:=by rw [<- cz (as:=es') (·.1),b,cz]
  refine eo λ g=> ?_;obtain ⟨kvs,j,_,y,_⟩:=sZ (prog:=W.prog) (w:=W.w) (S.1.1 _ _ ok);refine g ?_;rw [<- b,ff] at e;obtain ⟨x,C,rfl⟩:=iv.mp e;refine eo λ g=> ?_;obtain ⟨⟨k,v⟩,n,D⟩:=y.get C;refine g ?_;have p:kvs.length=es.length:=y.length.trans f;refine (ahG (A:=A) (knd:=mg W.prog W.w) c I d m kvs es'.length).item i s _ _ (cF.mp n).1 ⟨by rw [p,f];exact st,j⟩ λ u h' t F st' ao=> ?_
  obtain ⟨G,K,J,z⟩:=F;obtain rfl:k=G:=congrArg m8 (dC n J);have w:=off.write S.1 ao;have B:h'.IsKeyIter I d (i+1) es.length es.length:=by have:=st'.1;rw [p,f] at this;exact this
  obtain ⟨o,l,aI,hd⟩:=id B;refine q _ h' t ?_ w (off.next w l hd (aI▸rfl)) B;rw [D.1];cases u<;>first | exact of_decide_eq_true (sW.symm.trans z)▸.int _ _ | exact absurd z fS
 done:=λ A H s E Q c S ok off st q=>by
  obtain ⟨es',ok,b⟩:=ok;obtain ⟨kvs,j,_,y,_⟩:=sZ (prog:=W.prog) (w:=W.w) (S.1.1 _ _ ok);exact (ahG (A:=A) (knd:=mg W.prog W.w) c I d m kvs es'.length).done s _ _ ⟨by rw [y.length,(by rw [<- cz (as:=es') (·.1),b,cz]:es'.length=es.length)];rw [cz] at st;exact st,j⟩ λ h' t ao=>q h' t (off.write S.1 ao)
 self:=λ A i s E Q st q=>wpAny_pyIter_keyiter st q
 move:=λ i h h' st _ k=>by obtain ⟨o,l,r⟩:=st;exact ⟨o,k o l,r⟩
theorem AY (S:bW W H h) {o:dq} {vs:Array aE} (hd:o.data= .fields vs) (aI:isIt o.cls=true) (b:o.isFreed=false):hO W h.objs.size H (h.push o):=
 ⟨S.oo (gA _),λ m=>(S.qU (d2.grow S (λ a o e=>dP _ e) m)).elim λ bT z=>no ((gA _).symm.trans z.1),o,vs,hc _ b,hd,aI⟩
noncomputable abbrev Wy (W:a0) (I:ak) (xs:aV) (ok:ag->Prop) (St:Nat->a3->Prop) (H:ag) (h h':a3):Prop:=eT (Iter W I xs ok St) (St 0 h') (hO W I H h') (h.get? I=none) (∀a o,h.get? a=some o->h'.get? a=some o) (ok H)
theorem EW {x:Int} (h:x.natAbs<2^60):x<2^62:=wk Int.le_natAbs (C6 (hx.mpr h) (by decide))
theorem Lf {x:Int} (h:x.natAbs<2^60): -2^62<=x:=Int.neg_le_of_neg_le (IG (EW (Int.natAbs_neg x▸h)))
theorem Lg (S:b4 W H s) {o:ai} {K:aV->(ag->Prop)->Prop} (f:bt W.G s.heap u o) (h:pF H K o) {Q:cA}
  (q:∀xs ok I St h',K xs ok->Wy W I xs ok St H s.heap h'->Q (.ref I) {s with heap:=h'}):aR (aX W.prog W.w) A (pyIter u) Q E s:=by
 have d:∀(o:dq) (a:ak) (bT:dq),s.heap.get? a=some bT->(s.heap.push o).get? a=some bT:=λ o a bT e=>dP _ e;have ne:∀x o,s.heap.get? x=some o->x≠s.heap.objs.size:=λ x o e=>e6 (iu e)
 induction h with
 | tup h=>
  obtain ⟨x,o,items,n,rfl,b,aI,_,hd,g⟩:=f.inv;exact ahk (t:=x) (items:=items) ⟨o,b,aI,n,hd⟩ (q _ _ _ _ _ h ⟨Wv (items:=items) (ne _ _ b),⟨⟨_,hc _ rfl,rfl,rfl⟩,⟨o,d _ _ _ b,aI,n,hd⟩,g.stays (.push _ _)⟩,AY S.1 rfl rfl rfl,gA _,d _,trivial⟩)
 | @ic lo i J k h=>
  obtain ⟨a,p,t2,r,rfl,b⟩:=f.inv;refine wpAny_pyIter_range b (small_one (Lf J) (EW J) (Lf k) (EW k)) ?_;have e:Builtin.Range.rangeSize lo i 1=(((i - lo).toNat:Nat):Int):=by rw [rangeSize_one];split<;>first | exact (Sn (Int.sub_nonneg_of_le (IG ‹_›))).symm | exact (congrArg ml (Int.toNat_of_nonpos (Int.sub_nonpos_of_le (zx.mp ‹_›)))).symm
  rw [e];refine q _ _ _ _ _ h ⟨Ww,?_,AY S.1 rfl rfl rfl,gA _,d _,trivial⟩;simpa [IsRangeIter] using (hc s.heap (o:=({cls:= .type "range_iterator",data:= .fields #[qH lo,qH ((i - lo).toNat:Nat),qH 1]}:dq)) rfl)
 | list c h=>
  obtain rfl:u= .ref _:=f.inv;refine eo λ j=> ?_;obtain ⟨items,n,b,g⟩:=ig S c;refine j ?_;exact SQ (gT.isList b g).1 (q _ _ _ _ _ h ⟨Wu (ne _ _ b),⟨_,hc _ rfl,rfl,rfl⟩,AY S.1 rfl rfl rfl,gA _,d _,c⟩)
 | dict c h=>
  obtain rfl:u= .ref _:=f.inv;have l:=S.1.1 _ _ c;refine eo λ j=> ?_;obtain ⟨kvs,m,_,y,_⟩:=sZ (prog:=W.prog) (w:=W.w) l;refine j ?_;obtain ⟨ents,n,D⟩:=l;refine wpAny_pyIter_dict (ox S.1 c) m ?_;rw [y.length];exact q _ _ _ _ _ h ⟨Wx (ne _ _ D.1),⟨_,hc _ rfl,rfl,rfl⟩,AY S.1 rfl rfl rfl,gA _,d _,⟨_,c,rfl⟩⟩
end
end
section
theorem Lh {l:bZ} (n:l.Nodup) {i:Nat} {x:aW} (a:l[i]? =some x) (b:l[j]? =some x):i=j:=by
 obtain ⟨J,c⟩:=cF.mp a;obtain ⟨e,d⟩:=cF.mp b;exact (qF n).mp (c.trans d.symm)
theorem xv {α:Type} {l:List (Option α)} {i:Nat} {a b:α} (h:(l.set i (some a))[j]? =some (some b)):(j=i∧a=b)∨(j≠i∧l[j]? =some (some b)):=by
 by_cases e:j=i
 ·refine .inl ⟨e,?_⟩;have J:=(cF.mp h).1;rw [je] at J;rw [e,hP (e▸J)] at h;exact dA (dA h)
 ·exact .inr ⟨e,(iS (hy e)).symm.trans h⟩
noncomputable abbrev te (W:a0) (P:ak->Prop) (c:bq) (env:b0) (H:ag) (a7:cq) (s s':a4):Prop:=iV (b4 W H s') (bh W P H s.heap H s'.heap) (dU W c env H a7 s'.heap) (e0 s.heap s'.heap)
def mE (P:ak->Prop) (c:bq) (env:b0) (i:Nat):Prop:=∀x,c.names[i]? =some x->(c.kind x=some .local->P env.locals)∧∀a,env.cells.lookup x=some a->c.kind x=some .cell->P a
theorem mE.gW (i:Nat):mE (Pv env) c env i:=λ x _=>⟨λ _=> .inl rfl,λ a e _=> .inr ⟨x,e⟩⟩
section
variable {W:a0} {r:Nat} {c:bq} {env:b0} {A:c8} {fr:List b0} {l:cq} {H:ag} {s:a4} {E:cA} {P:ak->Prop}
theorem Own.again {a:ak} (x:Own W H h a) (w:ny W a H h h') {o:dq} (b:h'.get? a=some o) (c:∀d n,o.data≠ .seq d n) (e:∀vs,o.data≠ .fields vs):Own W H h' a:=by
 obtain ⟨z,_⟩:=x;exact ⟨z,w.3,o,b,c,e⟩
theorem xw (R:dU W c env H l s.heap) (S:b4 W H s) {x:aW} {i:Nat} {v:aE} {bg:ai} (X:Var c x i) (O:mE P c env i) (Q:bt W.G s.heap v bg):
  aR (aX W.prog W.w) A (bindName env x v) (λ _ s'=>te W P c env H (l.set i (some bg)) s s') E s:=by
 have f:=X.1;have ao:=R.kindOf x;have len:(l.set i (some bg)).length=c.names.length:=je.trans R.5;unfold bindName;refine aG (eb (Ik (aG ?_)));rcases R.6.2 x (cY f) with k | k
 ·obtain ⟨m,I,L⟩:=R.6.5;refine ahH (ao.trans k) I (λ h' T G=>Ik ?_) (by rw [R.2];rfl)
  have w:=R.6.6.2.write S.1 (h':=h') λ b o M e=>(G.2 b M).trans e;refine ⟨S.heap w.1 _,w.2.weak λ a p=>p▸(O x f).1 k,⟨R.1,R.2,R.3,R.4,len,R.6.1,R.6.2,R.6.3,R.6.4,⟨_,T,λ j y t J g d=> ?_⟩,λ j y J g=> ?_,?_⟩,w.4⟩
  ·rcases xv d with ⟨rfl,rfl⟩ | ⟨n,d⟩
   ·exact ⟨v,if_pos (dC J f),Q.stays w.4⟩
   ·exact (L j y t J g d).elim λ u z=>⟨u,(if_neg λ (e:y=x)=>n (Lh R.6.1 J (e▸f))).trans z.1,z.2.stays w.4⟩
  ·obtain ⟨B,u,a1,a2,bA,cW⟩:=R.6.6.1 j y J g;have K:B≠env.locals:=by
    refine eo λ h=> ?_;obtain ⟨o,es,ep,C,r,_⟩:=I;refine h ?_;obtain ⟨bw,D,F⟩:=a2;exact λ q=>e4 (r.symm.trans (dC (q▸D) C▸F))
   refine eo λ h=> ?_;obtain ⟨bw,D,F⟩:=a2;refine h ?_;refine ⟨B,u,a1,⟨bw,(G.2 B K).trans D,F⟩,bA.keep w.2 K,λ t d=> ?_⟩;rcases xv d with ⟨q,_⟩ | ⟨n,d⟩
   ·exact wJ (dA (k.symm.trans (dC f (q▸J)▸g)))
   ·exact (cW t d).elim λ u z=>⟨u,z.1,z.2.stays w.4⟩
  ·refine eo λ h=> ?_;obtain ⟨o,es,ep,C,r,_⟩:=T;refine h ?_;exact R.6.6.2.again w C (λ Y n q=>e4 (r.symm.trans q)) λ vs q=>e4 (r.symm.trans q)
 ·obtain ⟨B,u,a1,a2,bA,cW⟩:=R.6.6.1 i x f k;refine wpAny_storeName_cell R.2 (ao.trans k) a1 a2 λ h' U G=>Ik ?_;have w:=bA.write S.1 (h':=h') λ b o M e=>(G.2 b M).trans e;obtain ⟨m,I,L⟩:=R.6.5;have K:env.locals≠B:=by
   refine eo λ h=> ?_;obtain ⟨o,es,ep,C,r,_⟩:=I;refine h ?_;obtain ⟨bw,D,F⟩:=a2;exact λ q=>e4 (r.symm.trans (dC (q▸D) C▸F))
  refine ⟨S.heap w.1 s.toks,w.2.weak λ a p=>p▸(O x f).2 B a1 k,⟨R.1,R.2,R.3,R.4,len,R.6.1,R.6.2,R.6.3,R.6.4,⟨m,I.sameBut G K,λ j y t J g d=> ?_⟩,λ j y J g=> ?_,R.6.6.2.keep w.2 K⟩,w.4⟩
  ·rcases xv d with ⟨q,_⟩ | ⟨n,d⟩
   ·exact wJ (dA (k.symm.trans (dC f (q▸J)▸g)))
   ·exact (L j y t J g d).elim λ u z=>⟨u,z.1,z.2.stays w.4⟩
  ·by_cases e:j=i
   ·obtain rfl:x=y:=dC f (e▸J);obtain ⟨o,C,r⟩:=id U;refine ⟨B,some v,a1,U,bA.again w C (λ Y n q=>e4 (r.symm.trans q)) (λ vs q=>e4 (r.symm.trans q)),λ t d=>⟨v,rfl,?_⟩⟩;exact (xv d).elim (λ z=>z.2▸Q.stays w.4) λ z=>(z.1 e).elim
   ·obtain ⟨N,u,cM,Z,fB,fu⟩:=R.6.6.1 j y J g;have V:N≠B:=λ q=>e (Lh R.6.1 J (R.6.3 _ _ _ cM (q▸a1)▸f));refine eo λ h=> ?_;obtain ⟨bw,D,F⟩:=Z;refine h ?_;exact ⟨N,u,cM,⟨bw,(G.2 N V).trans D,F⟩,fB.keep w.2 V,λ t d=>(xv d).elim (λ z=>(e z.1).elim) λ z=>(fu t z.2).elim λ u z=>⟨u,z.1,z.2.stays w.4⟩⟩
theorem te.trans {d a:cq} {b:a4} (x:te W P c env H d s s1) (y:te W P c env H a s1 b):te W P c env H a s b:=
 ⟨y.1,x.2.trans y.2,y.3,x.4.trans y.4⟩
noncomputable def xx (l:cq) (is:aw) (dm:aV):cq:=(is.zip dm).foldl (λ l p=>l.set p.1 (some p.2)) l
inductive nC (c:bq):gk->aw->Prop
 | nil:nC c [] []
 | cons {x p i es is}:Var c x i->nC c es is->nC c (.Name x p::es) (i::is)
noncomputable def lU {m:cu->Type} (e:cu) (o:∀e,m e) (nm:∀x p,m (.Name x p):=λ _ _=>o _) (ab:∀v a p,m (.Attribute v a p):=λ _ _ _=>o _) (sb:∀v i p,m (.Subscript v i p):=λ _ _ _=>o _) (tp:∀es k p,m (.Tuple es k p):=λ _ _ _=>o _) (cl:∀f es ks p,m (.Call f es ks p):=λ _ _ _ _=>o _):m e:=match e with
 | .Name x p=>nm x p
 | .Attribute v a p=>ab v a p
 | .Subscript v i p=>sb v i p
 | .Tuple es k p=>tp es k p
 | .Call f es ks p=>cl f es ks p
 | e=>o e
noncomputable def EY (c:bq):(es:gk)->Option {is:aw//nC c es is}
 | []=>some ⟨[],.nil⟩
 | e::es=>lU (m:=λ e=>Option {is:aw//nC c (e::es) is}) e (λ _=>none) (nm:=λ x _=>(u7 c x).bind λ i=>(EY c es).map λ is=>⟨i.1::is.1,.cons i.2 is.2⟩)
theorem nC.each {es:gk} {is:aw} (n:nC c es is):(wK es env).length=is.length∧(wK es env).findIdx? (·.1)=none:=by
 induction n with
 | nil=>exact ⟨rfl,rfl⟩
 | @cons x p i es is _ _ ih=>
  refine ⟨congrArg (· +1) ih.1,?_⟩;show List.findIdx? _ ((false,oi (.Name x p) env)::wK es env)=none;rw [List.findIdx?_cons,ih.2];rfl
theorem nC.assign {es:gk} {is:aw} (n:nC c es is):(∀i∈is,mE P c env i)->∀{l:cq} {s:a4} (vs:cH) (dm:aV),dQ W.G s.heap vs dm->dU W c env H l s.heap->b4 W H s->is.length=dm.length->
  aR (aX W.prog W.w) A (S0 ((wK es env).map (·.2)) vs) (λ _ s'=>te W P c env H (xx l is dm) s s') E s:=by
 induction n with
 | nil=>
  intro _ l s vs dm b R S a;obtain rfl:=wi a.symm;cases b;exact bl ⟨S,bh.refl ..,R,.refl _⟩
 | @cons x p i es is J _ ih=>
  intro d l s vs dm b R S a;cases b with
  | nil=>exact (by cases a)
  | @cons v bg vs dm e f=>
   show aR _ _ (S0 (ahI (.Name x p) env::(wK es env).map (·.2)) (_::_)) _ _ _;refine aG (m:=IU _ (ahI (.Name x p) env _)) (eb ?_);rw [IZ];exact aG (fA (cL (xw (P:=P) R S J (d i (.head _)) e) (λ _ s1 st=>cL (ih (λ i g=>d i (.tail _ g)) _ dm (f.stays st.4) st.3 st.1 (wx a)) (λ _ h j3=>st.trans j3) λ _ _ x=>x) λ _ _ x=>x))
noncomputable def gJ.vb:gJ->aw
 | .one i=>[i]
 | .tup is=>is
inductive rp (c:bq):cu->gJ->Prop
 | one {x p i}:Var c x i->rp c (.Name x p) (.one i)
 | tup {es k p is}:nC c es is->rp c (.Tuple es k p) (.tup is)
noncomputable def Lj (c:bq) (e:cu):Option {t:gJ//rp c e t}:=lU (m:=λ e=>Option {t:gJ//rp c e t}) e (λ _=>none) (nm:=λ x _=>(u7 c x).map λ i=>⟨.one i.1,.one i.2⟩) (tp:=λ es _ _=>(EY c es).map λ i=>⟨.tup i.1,.tup i.2⟩)
theorem AZ {is:aw} {v:ai} (h:lM (.tup is) v l=some a7):∃dm,v= .tup dm∧is.length=dm.length∧a7=xx l is dm:=by
 cases v<;>first | exact no h | skip
 rename_i dm
 by_cases e:is.length=dm.length
 ·exact ⟨dm,rfl,e,(dA ((if_pos e).symm.trans h)).symm⟩
 ·exact no ((if_neg e).symm.trans h)
theorem EZ (r:A.handled=none) (R:dU W c env H l s.heap) (S:b4 W H s) {t:cu} {v:aE} (b8:rp c t e1) (f:∀i∈e1.vb,mE P c env i) (g:bt W.G s.heap v bg) (h:lM e1 bg l=some a7):
  aR (aX W.prog W.w) A (oi t env v) (λ _ s'=>te W P c env H a7 s s') E s:=by
 cases b8 with
 | @one x p i u=>
  rw [IZ];exact aG (fA (dA h▸xw R S u (f i (.head _)) g))
 | @tup es k p is n=>
  obtain ⟨dm,rfl,j,rfl⟩:=AZ h;obtain ⟨a,o,items,w,rfl,y,aI,_,hd,m⟩:=g.inv;rw [arm_assign_Tuple];have e:=n.each (env:=env);refine aG (fA (unpack_tuple r ⟨o,y,aI,w,hd⟩ (e.1.trans (j.trans m.length.symm)) e.2 λ h' z=> ?_));have d:∀b o,s.heap.get? b=some o->h'.get? b=some o:=λ b o e=>z b o (e6 (iu e)) e;have q:bh W cT H s.heap H h':=bh.grows S.1 _ d;exact cL (n.assign (P:=P) (s:={s with heap:=h'}) f items.toList dm (m.stays (.of_keep d)) (R.keep S.1 q) (S.heap (S.1.grow d) s.toks) j) (λ _ s' st=>⟨st.1,q.gI.trans st.2,st.3,(e0.of_keep d).trans st.4⟩) λ _ _ x=>x
theorem Wz (is:aw) (dm:aV):(xx l is dm).length=l.length:=by
 unfold xx
 induction is.zip dm generalizing l with
 | nil=>rfl
 | cons p bu ih=>exact (ih (l:=l.set p.1 (some p.2))).trans je
theorem WA {is:aw} {i:Nat} (h:∀j∈is,j≠i):(xx l is dm)[i]? =l[i]? :=by
 have:∀(bu:List (Nat×ai)) (l:cq),(∀p∈bu,p.1≠i)->(bu.foldl (λ l p=>l.set p.1 (some p.2)) l)[i]? =l[i]? :=by
  intro bu
  induction bu with
  | nil=>exact λ l _=>rfl
  | cons p bu ih=>exact λ l c=>(ih _ λ q d=>c q (.tail _ d)).trans (iS (c p (.head _)))
 exact this _ l λ p c=>h p.1 (S1 (a:=p.1) (b:=p.2) c).1
theorem WB {v:ai} (h:lM e1 v l=some a7) {i:Nat} (a:∀j∈e1.vb,j≠i):a7[i]? =l[i]? :=by
 cases e1 with
 | one j=>exact dA h▸iS (a j (.head _))
 | tup is=>obtain ⟨dm,_,_,rfl⟩:=AZ h;exact WA a
theorem WC {v:ai} (h:lM e1 v l=some a7):a7.length=l.length:=by
 cases e1 with
 | one j=>exact dA h▸je
 | tup is=>obtain ⟨dm,_,_,rfl⟩:=AZ h;exact Wz is dm
end
end
section
inductive gr (W:a0) (env:b0) (fr:List b0) (d3:ag) (h₀:a3) (E:ag->Prop) (v:aE) (s':a4):Prop
 | mk (e:ak) (aa:ag) (ev:v= .ref e) (S:b4 W aa s') (k:bh W (Pv env) d3 h₀ aa s'.heap) (hF:j1 W fr aa s'.heap) (km:sS W h₀ e s'.heap) (x:E aa) (gW:∀a,Pv env a->∃o,s'.heap.get? a=some o) (ns:∃m,s'.heap.Ns env.locals m)
section
variable (W:a0) (r:Nat) (c:bq)
def vc (x:Bool) (e:cu) (f:aJ->aJ):Prop:=∀{env A fr l H s E k st ba K},At W r c env A fr l H s->runs W r ba (f k) st l H K->(x=true->∀v s',gr W env fr H s.heap ba v s'->E v s')->aR (aX W.prog W.w) A (eval e env) (dW W H s.heap λ v aa=>runs W r ba k (v::st) l aa K) E s
def fi (e:cu) (f:aJ->aJ):Prop:=∀{env A fr l H s E k st ba K},At W r c env A fr l H s->runs W r ba (f k) st l H K->aR (aX W.prog W.w) A (eval e env) (dW W H s.heap λ v aa=>runs W r ba k (v::st) l aa K) E s
def oE (e:cu) (t:aJ->aJ->aJ->aJ):Prop:=∀{env A fr l H s E a b k st ba K},At W r c env A fr l H s->runs W r ba (t a b k) st l H K->aR (aX W.prog W.w) A (isTrue e env (eval e env)) (td W H s.heap λ p aa=>runs W r ba (if p then a else b) st l aa (gn (λ st l H=>runs W r ba k st l H K) K)) E s
end
noncomputable abbrev Plain (e:cu):Prop:=iV (∀es env,nc (e::es) env=(false,eval e env)::nc es env) (∀o v,Ip e false o v=Iq [o,v] (zw o v)) (∀env x,foldedSetIterable e env x=pure x) (∀a,S2 a e=false)
inductive E0 (W:a0) (c:bq) (env:b0) (d3:ag) (h₀:a3) (Q:cq->ag->Prop) (s':a4):Prop
 | mk (a7:cq) (aa:ag) (S:b4 W aa s') (k:bh W (Pv env) d3 h₀ aa s'.heap) (R:dU W c env aa a7 s'.heap) (q:Q a7 aa)
def Lk (W:a0) (r:Nat) (c:bq) (b:cu) (a:List Comprehension) (sc:ia) (pos:cn) (f:aJ->aJ):Prop:=∀{env A fr l H s E k st ba K y d i},Var c y i->At W r c env A fr l H s->runs W r ba (f k) st l H K->
 aR (aX W.prog W.w) A (comprehension (.ListComp b a sc pos) sc env (firstIterPos a pos) (newList []) (firstAsync a) (firstIter a env) (some (oi (.Name y d) env))) (λ _ s'=>E0 W c env H s.heap (λ a7 aa=>∃v,a7=l.set i (some v)∧runs W r ba k (v::st) l aa K) s') E s
inductive A0 (W:a0) (r:Nat) (c:bq):cu->(aJ->aJ)->Prop
 | no {e f} (h:∀t n env,zK e t n env=pure false):A0 W r c e f
 | comp {elt fj sc p f} (h:Lk W r c elt fj sc p f):A0 W r c (.ListComp elt fj sc p) f
structure de (W:a0) (r:Nat) (c:bq) (e:cu) where
 f:aJ->aJ
 t:aJ->aJ->aJ->aJ
 ab:Bool
 ok:fi W r c e f
 tok:oE W r c e t
 gC:Plain e
 Ll:ab=true->∀attr env whole,wL e attr env whole=whole
 sw:A0 W r c e f
inductive eV (W:a0) (r:Nat) (c:bq):gk->Type
 | nil:eV W r c []
 | cons {e es}:de W r c e->eV W r c es->eV W r c (e::es)
noncomputable def eV.f {es:gk} (xs:eV W r c es) (k:aJ):aJ:=match xs with
 | .nil=>k
 | .cons x xs=>x.f (xs.f k)
section
variable {W:a0} {r:Nat} {c:bq} {env:b0} {A:c8} {fr:List b0} {l:cq} {H:ag} {s:a4} {E:cA} {k a b:aJ} {st:aV} {ba:ag->Prop} {K:dK}
theorem Lm (X:At W r c env A fr l H s) {a:ai} {R:Bool->ag->Prop} (d:bt W.G s.heap u a) (h:iX H (λ b=>R b H) a):aR (aX W.prog W.w) A (C5 u) (td W H s.heap R) E s:=
 En X.2 d h λ b e t=>⟨H,X.2.tok t,bh.refl ..,e⟩
theorem Ln (p:Bool) (h:if p then runs W r ba a st l H (gn (runs W r ba k · · · K) K) else runs W r ba b st l H (gn (runs W r ba k · · · K) K)):runs W r ba (if p then a else b) st l H (gn (runs W r ba k · · · K) K):=by cases p<;>exact h
theorem Lo {a:ai} {Q rh:Bool->Prop} (h:iX H Q a) (k:∀c,Q c->rh c):iX H rh a:=by
 induction h with
 | bool h=>exact .bool (k _ h)
 | none h=>exact .none (k _ h)
 | int h=>exact .int (k _ h)
 | list J b h=>exact .list J b (k _ h)
theorem E1 {e:cu} {f:aJ->aJ} (ok:fi W r c e f) (g:∀env d,isTrue e env d=(do let v <- d;standAt e.pos;IU [v] (C5 v))):oE W r c e λ a b k=>f (.cf a b::k):=by
 intro env A fr l H s E a b k st ba K X v;rw [g];exact nA X (ok X v) λ u s1 bg H1 h i j m=>aG (fA (eb (cL (Lm h j (Lo m Ln)) (λ b n x=>x.from i) λ _ _ x=>x)))
noncomputable def de.gen {e:cu} (f:aJ->aJ) (ok:fi W r c e f) (gC:Plain e) (g:∀env d,isTrue e env d=(do let v <- d;standAt e.pos;IU [v] (C5 v))) (ab:∀h env d,wL e h env d=d) (sw:∀t n env,zK e t n env=pure false):de W r c e:=
 ⟨f,λ a b k=>f (.cf a b::k),true,ok,E1 ok g,gC,λ _=>ab,.no sw⟩
theorem xy {α:Type} {vs st:List α} (h:vs.length=n):((vs.reverse++st).take n).reverse=vs∧(vs.reverse++st).drop n=st:=by
 rw [(by rw [List.length_reverse,h]:n=vs.reverse.length),Sq,List.drop_left,ahJ];exact ⟨rfl,rfl⟩
theorem eV.spliced {es:gk} (xs:eV W r c es) (p:cn):∀{H:ag} {s:a4} {st:aV},At W r c env A fr l H s->runs W r ba (xs.f k) st l H K->
  aR (aX W.prog W.w) A (I0 (px p (nc es env))) (Wl W H s.heap λ vs aa=>vs.length=es.length∧runs W r ba k (vs.reverse++st) l aa K) E s:=by
 induction xs with
 | nil=>exact λ X v=>S3 ⟨[],_,X.2,bh.refl ..,.nil,rfl,v⟩
 | @cons e es x xs ih=>
  intro H s st X v;rw [x.gC.1];show aR _ _ (I0 ((false,if false=true then _ else eval e env)::px p (nc es env))) _ _ _
  refine S4 ?_;rw [if_neg fS];refine ij X (x.ok X v) λ u s1 bg H1 a b d f=>cL (ih a f) (λ vs h x=> ?_) λ _ _ x=>x;obtain ⟨dm,g,a1,a2,bA,cW⟩:=x;exact ⟨bg::dm,g,a1,b.trans a2,.cons (d.stays (a2.kZ a.2.1)) bA,congrArg (· +1) cW.1,by rw [zp,jy];exact cW.2⟩
theorem eV.plain {es:gk} (xs:eV W r c es) (p:cn):(px p (nc es env)).any (·.1)=false:=by
 induction xs with
 | nil=>rfl
 | cons x xs ih=>rw [x.gC.1];exact ih
theorem Lp {f:aE} {args:List (Bool×Sem aE)} {Q:Args->a4->Prop} (c:args.any (·.1)=false)
  (h:aR (aX W.prog W.w) A (I0 args) (λ vs s'=>Q ⟨vs,[]⟩ s') E s):aR (aX W.prog W.w) A (evalArgs f true args []) Q E s:=by
 cases args with
 | nil=>
  unfold evalArgs;show aR _ A (I0 []>>=_) Q E s;exact aG (cL h (λ vs s' h'=>aG (bl (eb (aG (bl (aG (bl (bl h')))))))) λ _ _ x=>x)
 | cons a rest=>
  obtain ⟨b,x⟩:=a;cases b with
  | true=>exact (by cases c)
  | false=>exact evalArgs_plain h
theorem eV.call (K':dR W) {es:gk} (xs:eV W r c es) (X:At W r c env A fr l H s) {f:aE} {first:cH} {eU:cn} {Q:cA} (ao:Kept W f) (v:runs W r ba (xs.f k) st l H K)
  (q:∀vs dm H1 s1,At W r c env A fr l H1 s1->bh W cT H s.heap H1 s1.heap->dQ W.G s1.heap vs dm->dm.length=es.length->runs W r ba k (dm.reverse++st) l H1 K->aR (aX W.prog W.w) A (PySem.call f (first++vs)) Q E s1):
  aR (aX W.prog W.w) A (callWith pos f first (px eU (nc es env)) (I1 eU (I2 [] env))) Q E s:=by
 refine callWith_of (P:=λ h=>W.K.In h) (by show ((px eU (nc es env)).any (·.1)||false)=false;rw [xs.plain];rfl) ao ?_
 refine Lp (xs.plain eU) (cL (xs.spliced eU X v) (λ vs s1 x=> ?_) λ _ _ x=>x);obtain ⟨dm,H1,a1,a2,bA,cW⟩:=x;exact ⟨bW.ji (s:=s1) K' a1.1,q vs dm H1 s1 (X.move a1 a2) a2 bA cW.1 cW.2⟩
theorem gr.of {s':a4} (X:At W r c env A fr l aa s1) (k:bh W cT H s.heap aa s1.heap) {v:aE} (x:nh W cT aa s1.heap fr ba v s'):gr W env fr H s.heap ba v s':=by
 obtain ⟨e,f,rfl,a1,a2,bA,⟨c7,vs,d,m,cM,g,h,i,j,n,t,u,w,z⟩,B⟩:=x;have b:∀a,s1.heap.get? a=none->s.heap.get? a=none:=λ a e=>k.3 a id e;refine ⟨e,f,rfl,a1,(k.trans a2).gI,bA,⟨c7,vs,d,m,cM,g,h,i,j,b _ n,b _ t,u,w,z.imp id λ y=> ?_⟩,B,λ a p=> ?_,?_⟩
 ·obtain ⟨T,C,D,E,F,G,I,J,K,L,M⟩:=y;exact ⟨T,C,D,E,b _ F,G,I,J,K,L,M⟩
 ·obtain ⟨o,aD⟩:=X.3.gW p;exact ahK.mp λ q=>no ((a2.3 a id q).symm.trans aD.1)
 ·obtain ⟨m,N,_⟩:=X.3.6.5;obtain ⟨o,O,P⟩:=X.3.6.6.2.same a2 id;exact ⟨m,Ns.same N O P⟩
theorem Lq {x:Bool} {s':a4} (X:At W r c env A fr l aa s1) (k:bh W cT H s.heap aa s1.heap) {v:aE} (a:x=true->∀v s',gr W env fr H s.heap ba v s'->E v s') (y:nh W cT aa s1.heap fr (if x then ba else mu) v s'):E v s':=by
 cases x with
 | true=>exact a rfl _ _ (gr.of X k y)
 | false=>exact (J7 y).elim
end
end
section
section
variable {W:a0} {r:Nat} {c:bq}
noncomputable def WE (c:bq) (a:Const) (d:Nat) (p:cn):Option (de W r c (.Constant a d p)):=match a with
 | .none=>some (.gen (.aN .none:: ·) (λ X v=>ahL (jh X.2 .none v)) ⟨λ _ _=>rfl,λ _ _=>rfl,λ _ _=>rfl,λ _=>rfl⟩ (λ _ _=>rfl) (λ _ _ _=>rfl) λ _ _ _=>rfl)
 | .bool b=>some (.gen (.aN (.bool b):: ·) (λ X v=>wpAny_Constant_bool (jh X.2 (.bool _) v)) ⟨λ _ _=>rfl,λ _ _=>rfl,λ _ _=>rfl,λ _=>rfl⟩ (λ _ _=>rfl) (λ _ _ _=>rfl) λ _ _ _=>rfl)
 | .int i=>some (.gen (.aN (.int i):: ·) (λ X v=>S5 (hn X.2 _ (.int _ _) v)) ⟨λ _ _=>rfl,λ _ _=>rfl,λ _ _=>rfl,λ _=>rfl⟩ (λ _ _=>rfl) (λ _ _ _=>rfl) λ _ _ _=>rfl)
 | .str s=>some (.gen (.aN (.str s):: ·) (λ X v=>wpAny_Constant_str (hn X.2 _ (.str _ _) v)) ⟨λ _ _=>rfl,λ _ _=>rfl,λ _ _=>rfl,λ _=>rfl⟩ (λ _ _=>rfl) (λ _ _ _=>rfl) λ _ _ _=>rfl)
 | _=>none
theorem rt {s:a4} {Q:cA} {x:aW} {p:cn} (hd:x≠("__debug__":aW)) (h:aR (aX W.prog W.w) A (zI env x) Q E s):aR (aX W.prog W.w) A (eval (.Name x p) env) Q E s:=by
 rw [arm_eval_Name];refine aG (fA ?_);rw [if_neg λ e=>hd (ed e)];exact h
noncomputable def de.name (x:aW) (p:cn) (hd:x≠("__debug__":aW)) (a:Op) (h:∀{env A fr l H s E k st ba K},At W r c env A fr l H s->runs W r ba (a::k) st l H K->aR (aX W.prog W.w) A (zI env x) (dW W H s.heap λ v aa=>runs W r ba k (v::st) l aa K) E s):de W r c (.Name x p):=
 .gen (a:: ·) (λ X v=>rt hd (h X v)) ⟨λ _ _=>rfl,λ _ _=>rfl,λ _ _=>rfl,λ _=>rfl⟩ (λ _ _=>rfl) (λ _ _ _=>rfl) λ _ _ _=>rfl
noncomputable def WG (K:dR W) (c:bq) (x:aW) (p:cn):Option (de W r c (.Name x p)):=
 if hd:x=("__debug__":aW) then none else
 if ao:c.kind x=some .globalImplicit then
  (match e:sX.lookup x with
  | some g=>some (.name x p hd (.aN (.fn g)) λ X v=>xq K X ao (K.3 x g e) (jh X.2 (.fn g) v))
  | none=>(match e:Ej.lookup x with
   | some u=>some (.name x p hd (.aN u) λ X v=>(K.4 x u e).elim λ w z=>xq K X ao z.1 (jh X.2 (z.2.stays λ a o e _=>X.2.1.2 a o e) v))
   | none=>none))
 else (u7 c x).map λ i=> .name x p hd (.ae i.1) λ X v=>AW X i.2 v
theorem WH {a b:cu} {e:uh} {p:cn} {f g:aJ->aJ} (J:fi W r c a f) (i:fi W r c b g):fi W r c (.BinOp a e b p) λ k=>f (g (.bin e::k)):=by
 intro env A fr l H s E k st ba K X v;exact wpAny_BinOp (ij X (J X v) λ u s1 bg H1 d j m n=>ij d (i d n) λ w y z B o h q t=>
  cL (Uc o.2 (m.stays (h.kZ d.2.1)) q t) (λ v s' x=>x.from (j.trans h)) λ _ _ x=>x)
noncomputable def de.bin {a b:cu} (d:uh) (p:cn) (x:de W r c a) (y:de W r c b):de W r c (.BinOp a d b p):=
 .gen (λ k=>x.f (y.f (.bin d::k))) (WH x.ok y.ok) ⟨λ _ _=>rfl,λ _ _=>rfl,λ _ _=>rfl,λ _=>rfl⟩ (λ _ _=>rfl) (λ _ _ _=>rfl) λ _ _ _=>rfl
theorem Lr {a:cu} {b:UnaryOp} {o:Op} {p:cn} {f:aJ->aJ} (J:fi W r c a f)
  (h:∀{A s E k st l ba K} {gq:ag} {h0:a3} {H:ag} {u:aE} {bg:ai},b4 W H s->bh W cT gq h0 H s.heap->bt W.G s.heap u bg->runs W r ba (o::k) (bg::st) l H K->aR (aX W.prog W.w) A (unaryOp b u) (dW W gq h0 λ v aa=>runs W r ba k (v::st) l aa K) E s):fi W r c (.UnaryOp b a p) λ k=>f (o::k):=by
 intro env A fr l H s E k st ba K X v;rw [arm_eval_UnaryOp];exact nA X (J X v) λ u s1 bg H1 d e g i=>aG (fA (eb (h d.2 e g i)))
theorem WI {a:cu} {p:cn} {f:aJ->aJ} (J:fi W r c a f):fi W r c (.UnaryOp .Not a p) λ k=>f (.not::k):=Lr J λ S K r v=>by
 unfold unaryOp;refine eb ?_;show aR _ _ (C5 _>>=λ b=>pure (Value.bool !b)) _ _ _;exact aG (En S r v λ b d t=>bl ⟨.bool (!b),_,S.tok t,K,.bool _,d⟩)
theorem WJ {a:cu} {p:cn} {f:aJ->aJ} (J:fi W r c a f):fi W r c (.UnaryOp .USub a p) λ k=>f (.neg::k):=Lr J λ S K r v=>by
 obtain ⟨i,rfl,v⟩:=v;exact r.inv.elim λ t e=>e▸PyProof.Rows.neg_int ⟨_,_,S.tok _,K,.int _ _,v⟩
theorem WK {a:cu} {p:cn} {t:aJ->aJ->aJ->aJ} (h:oE W r c a t):oE W r c (.UnaryOp .Not a p) λ a b k=>t b a k:=by
 intro env A fr l H s E a b k st ba K X v;rw [arm_isTrue_UnaryOp];refine va X (h X v) λ p s1 H1 d e f=>bl ⟨H1,d.2,e,?_⟩;cases p<;>exact f
noncomputable def WL {a:cu} (d:UnaryOp) (p:cn) (x:de W r c a):Option (de W r c (.UnaryOp d a p)):=match d with
 | .Not=>some ⟨λ k=>x.f (.not::k),λ a b k=>x.t b a k,true,WI x.ok,WK x.tok,⟨λ _ _=>rfl,λ _ _=>rfl,λ _ _=>rfl,λ _=>rfl⟩,λ _ _ _ _=>rfl,.no λ _ _ _=>rfl⟩
 | .USub=>some (.gen (λ k=>x.f (.neg::k)) (WJ x.ok) ⟨λ _ _=>rfl,λ _ _=>rfl,λ _ _=>rfl,λ _=>rfl⟩ (λ _ _=>rfl) (λ _ _ _=>rfl) λ _ _ _=>rfl)
 | _=>none
theorem A1 (K:dK):gn (λ st l H=>runs W r ba [] st l H K) K=K:=by funext cy st l H;cases cy<;>rfl
theorem WM {t a b:cu} {p:cn} {d:aJ->aJ->aJ->aJ} {f g:aJ->aJ} (b8:oE W r c t d) (J:fi W r c a f) (j:fi W r c b g):fi W r c (.IfExp t a b p) λ k=>d (f []) (g []) k:=by
 intro env A fr l H s E k st ba K X v;rw [arm_eval_IfExp];refine va X (b8 X v) λ p s1 H1 e h i=> ?_;cases p with
 | true=>exact cL (J e i) (λ v s' x=>x.from h) λ _ _ x=>x
 | false=>exact cL (j e i) (λ v s' x=>x.from h) λ _ _ x=>x
theorem WN {t a b:cu} {p:cn} {d f g:aJ->aJ->aJ->aJ} (b8:oE W r c t d) (J:oE W r c a f) (j:oE W r c b g):oE W r c (.IfExp t a b p) λ x y k=>d (f x y []) (g x y []) k:=by
 intro env A fr l H s E x y k st ba K X v;rw [arm_isTrue_IfExp];refine va X (b8 X v) λ p s1 H1 e h i=> ?_;cases p with
 | true=>exact cL (J e i) (λ v s' x=>by rw [A1] at x;exact x.from h) λ _ _ x=>x
 | false=>exact cL (j e i) (λ v s' x=>by rw [A1] at x;exact x.from h) λ _ _ x=>x
noncomputable def de.ite {t a b:cu} (p:cn) (x:de W r c t) (y:de W r c a) (z:de W r c b):de W r c (.IfExp t a b p):=
 ⟨λ k=>x.t (y.f []) (z.f []) k,λ a b k=>x.t (y.t a b []) (z.t a b []) k,true,WM x.tok y.ok z.ok,WN x.tok y.tok z.tok,⟨λ _ _=>rfl,λ _ _=>rfl,λ _ _=>rfl,λ _=>rfl⟩,λ _ _ _ _=>rfl,.no λ _ _ _=>rfl⟩
theorem WO {a b:cu} {d:pn} {p:cn} {f g:aJ->aJ} (J:fi W r c a f) (j:fi W r c b g) (m:S2 d b=false):fi W r c (.Compare a [d] [b] p) λ k=>f (g (.cmp d::k)):=by
 intro env A fr l H s E k st ba K X v;exact wpAny_Compare1 (ij X (J X v) λ u s1 bg H1 e n o q=>ij e (j e q) λ y z B C h i t w=>
  cL (Ki h.2 h.units (o.stays (i.kZ e.2.1)) t w) (λ v s' x=>x.from (n.trans i)) λ _ _ x=>x) m
theorem WQ {a b:cu} {d:pn} {p:cn} {f g:aJ->aJ} (J:fi W r c a f) (j:fi W r c b g) (m:S2 d b=false):oE W r c (.Compare a [d] [b] p) λ x y k=>f (g (.cmp d:: .cf x y::k)):=by
 intro env A fr l H s E x y k st ba K X v;exact ahM (ij X (J X v) λ u s1 bg H1 e n o q=>ij e (j e q) λ F G I L h i t w=>ij h (Ki h.2 h.units (o.stays (i.kZ e.2.1)) t w) λ M N O P z B C D=>
  cL (Lm z C (Lo D Ln)) (λ b s' x=>x.from (n.trans (i.trans B))) λ _ _ x=>x) m
noncomputable def WR {a:cu} (p:cn) (x:de W r c a):{e:List pn}->{bs:gk}->eV W r c bs->Option (de W r c (.Compare a e bs p))
 | [d],_,.cons y .nil=>some ⟨λ k=>x.f (y.f (.cmp d::k)),λ a b k=>x.f (y.f (.cmp d:: .cf a b::k)),true,WO x.ok y.ok (y.gC.4 d),WQ x.ok y.ok (y.gC.4 d),⟨λ _ _=>rfl,λ _ _=>rfl,λ _ _=>rfl,λ _=>rfl⟩,λ _ _ _ _=>rfl,.no λ _ _ _=>rfl⟩
 | _,_,_=>none
noncomputable def eV.E2 (w:Bool) {e:cu} {es:gk} (x:de W r c e) (xs:eV W r c es) (k:aJ):aJ:=match xs with
 | .nil=>x.f k
 | .cons y ys=>x.f (.gc w (eV.E2 w y ys [])::k)
noncomputable def eV.A3 (w:Bool) {e:cu} {es:gk} (x:de W r c e) (xs:eV W r c es) (a b k:aJ):aJ:=match xs with
 | .nil=>x.t a b k
 | .cons y ys=>match w with
  | true=>x.t (eV.A3 w y ys a b []) b k
  | false=>x.t a (eV.A3 w y ys a b []) k
noncomputable def A4:BoolOp->Bool
 | .And=>true
 | .Or=>false
theorem WS (p:cn) (g:BoolOp) {es:gk} (xs:eV W r c es):∀{e:cu} (x:de W r c e) {H:ag} {s:a4} {k:aJ} {st:aV} {K:dK},At W r c env A fr l H s->runs W r ba (eV.E2 (A4 g) x xs k) st l H K->
  aR (aX W.prog W.w) A (boolOp p g (evalEach (e::es) env)) (dW W H s.heap λ v aa=>runs W r ba k (v::st) l aa K) E s:=by
 induction xs with
 | nil=>exact λ x _ _ _ _ _ X v=>x.ok X v
 | cons y ys ih=>
  intro e x H s k st K X v;show aR _ _ (eval e env>>=_) _ _ _;refine nA X (x.ok X v) λ u s1 bg H1 a d h i=>aG (fA (aG (eb (En a.2 h i λ b f t=> ?_))));cases g<;>cases b
  ·exact bl ⟨bg,H1,a.2.tok t,d,h,f⟩
  ·exact cL (ih y (a.tok t) f) (λ v s' x=>x.from d) λ _ _ x=>x
  ·exact cL (ih y (a.tok t) f) (λ v s' x=>x.from d) λ _ _ x=>x
  ·exact bl ⟨bg,H1,a.2.tok t,d,h,f⟩
theorem WT (h:BoolOp) {es:gk} (xs:eV W r c es):∀{e:cu} (x:de W r c e) {H:ag} {s:a4} {a b k:aJ} {st:aV} {K:dK},At W r c env A fr l H s->runs W r ba (eV.A3 (A4 h) x xs a b k) st l H K->
  aR (aX W.prog W.w) A (allTrue h (e::es) env) (td W H s.heap λ p aa=>runs W r ba (if p then a else b) st l aa (gn (λ st l H=>runs W r ba k st l H K) K)) E s:=by
 induction xs with
 | nil=>
  intro e x H s a b k st K X v;rw [arm_allTrue_cons];refine va X (x.tok X v) λ p s1 H1 d f g=> ?_;cases h<;>cases p<;>exact bl ⟨H1,d.2,f,g⟩
 | cons y ys ih=>
  intro e x H s a b k st K X v;rw [arm_allTrue_cons];cases h with
  | And=>
   refine va X (x.tok X v) λ p s1 H1 d f g=> ?_;cases p with
   | false=>exact bl ⟨H1,d.2,f,g⟩
   | true=>exact cL (ih y d g) (λ v s' x=>by rw [A1] at x;exact x.from f) λ _ _ x=>x
  | Or=>
   refine va X (x.tok X v) λ p s1 H1 d f g=> ?_;cases p with
   | true=>exact bl ⟨H1,d.2,f,g⟩
   | false=>exact cL (ih y d g) (λ v s' x=>by rw [A1] at x;exact x.from f) λ _ _ x=>x
noncomputable def cBool (a:BoolOp) (p:cn):{es:gk}->eV W r c es->Option (de W r c (.BoolOp a es p))
 | _,.nil=>none
 | _,.cons x xs=>some ⟨eV.E2 (A4 a) x xs,eV.A3 (A4 a) x xs,true,λ X v=>WS p a xs x X v,λ X v=>WT a xs x X v,⟨λ _ _=>rfl,λ _ _=>rfl,λ _ _=>rfl,λ _=>rfl⟩,λ _ _ _ _=>rfl,.no λ _ _ _=>rfl⟩
noncomputable def Ls (x:aW):Option {f:bp//x=f.str}:=match e:(S6 34).find? (λ f=>bp.str f==x) with
 | some f=>some ⟨f,(beq_iff_eq.mp (SO (p:=λ f=>bp.str f==x) e)).symm⟩
 | none=>none
theorem WU (K':dR W) {a:aW} {f:bp} {p:cn} {x:de W r c o} (b:x.ab=true) (d:a=f.str):fi W r c (.Attribute o a p) λ k=>x.f (.bi f::k):=by
 intro env A fr l H s E k st ba K X v;rw [ahN,x.Ll b,d];exact nA X (x.ok X v) λ u s1 bg H1 e g h i=>aG (fA (aG (eb (cL (UA K' e.2 h i) (λ v s' x=>aG (ahO (bl (x.from g)))) λ _ _ x=>x))))
noncomputable def WV (K':dR W) (a:aW) (p:cn) (x:de W r c o):Option (de W r c (.Attribute o a p)):=
 if b:x.ab=true then (Ls a).map λ f=> .gen (λ k=>x.f (.bi f.1::k)) (WU K' b f.2) ⟨λ _ _=>rfl,λ _ _=>rfl,λ _ _=>rfl,λ _=>rfl⟩ (λ _ _=>rfl) (λ _ _ _=>rfl) λ _ _ _=>rfl else none
theorem WW {i:cu} {p:cn} {f g:aJ->aJ} (J:fi W r c o f) (e:fi W r c i g) (h:∀o v,Ip i false o v=Iq [o,v] (zw o v)):fi W r c (.Subscript o i p) λ k=>f (g (.sub::k)):=by
 intro env A fr l H s E k st ba K X v;rw [ahP];refine nA X (J X v) λ u s1 bg H1 a j m n=>aG (eb (ij a (e a n) λ q y z B b d t w=>aG (fA ?_)));show aR _ _ (Ir o i u q) _ _ _;exact cL (Uw b.2 b.EV (m.stays (d.kZ a.2.1)) t w h) (λ v s' x=>x.from (j.trans d)) λ _ _ x=>x
noncomputable def de.sub {i:cu} (p:cn) (x:de W r c o) (y:de W r c i):de W r c (.Subscript o i p):=
 .gen (λ k=>x.f (y.f (.sub::k))) (WW x.ok y.ok y.gC.2) ⟨λ _ _=>rfl,λ _ _=>rfl,λ _ _=>rfl,λ _=>rfl⟩ (λ _ _=>rfl) (λ _ _ _=>rfl) λ _ _ _=>rfl
def E3 (W:a0) (r:Nat) (c:bq) (e:Option cu) (f:aJ->aJ):Prop:=∀{env A fr l H s E k st ba K},At W r c env A fr l H s->runs W r ba (f k) st l H K->aR (aX W.prog W.w) A (valueOrNone (evalOpt e env)) (dW W H s.heap λ v aa=>runs W r ba k (v::st) l aa K) E s
structure tj (W:a0) (r:Nat) (c:bq) (e:Option cu) where
 f:aJ->aJ
 ok:E3 W r c e f
noncomputable def tj.none:tj W r c none:=⟨(.aN .none:: ·),λ X v=>bl (jh X.2 .none v)⟩
noncomputable def tj.some {e:cu} (x:de W r c e):tj W r c (some e):=⟨x.f,λ X v=>x.ok X v⟩
theorem WX {lo a:Option cu} {p q:cn} {f g h:aJ->aJ} (J:fi W r c o f) (n:E3 W r c lo g) (t:E3 W r c a h):fi W r c (.Subscript o (.Slice lo a none q) p) λ k=>f (g (h (.slice::k))):=by
 intro env A fr l H s E k st ba K X v;rw [ahP];refine nA X (J X v) λ u s1 bg H1 b w y z=>aG (eb ?_);rw [arm_eval_Slice];refine nA b (n b z) λ B M al N d e C D=>aG (eb ?_);refine ij d (t d D) λ F i O P G j I L=>aG (eb (bl ?_));show aR _ _ (newObj (.type "slice") (.fields [B,F,mh].toArray)) _ _ _;refine ahQ ?_ (by show 3<=_;rw [jX];exact bF (by decide))
 refine aG (fA ?_);show aR _ _ (Ir o (.Slice lo a none q) u (.ref i.heap.objs.size)) _ _ _;have m:=j.kZ d.2.1;exact cL (Uy G.2 (y.stays ((e.kZ b.2.1).trans m)) (C.stays m) I L i.toks (λ _ _=>rfl)) (λ v s' x=>x.from (w.trans (e.trans j))) λ _ _ x=>x
noncomputable def de.slice {lo a:Option cu} (p q:cn) (x:de W r c o) (y:tj W r c lo) (z:tj W r c a):de W r c (.Subscript o (.Slice lo a none q) p):=
 .gen (λ k=>x.f (y.f (z.f (.slice::k)))) (WX x.ok y.ok z.ok) ⟨λ _ _=>rfl,λ _ _=>rfl,λ _ _=>rfl,λ _=>rfl⟩ (λ _ _=>rfl) (λ _ _ _=>rfl) λ _ _ _=>rfl
end
end
section
section
variable {W:a0} {r:Nat} {c:bq}
theorem WZ {x:Bool} {g:aP} {k:aJ} {K:dK} (h:dm.length=n) (v:runs W r ba (.call x g n::k) (dm.reverse++st) l H K):
  pG W r (if x then ba else mu) g dm H λ v H=>runs W r ba k (v::st) l H K:=by
 have q:=xy (st:=st) h;have v:pG W r (if x then ba else mu) g ((dm.reverse++st).take n).reverse H λ v H=>runs W r ba k (v::(dm.reverse++st).drop n) l H K:=v
 rw [q.1,q.2] at v;exact v
theorem W0 {x:Bool} {m:kl} {u:aV} {o:ai} {k:aJ} {K:dK} (J:(u.take n).reverse=dm) (a:u.drop n=o::st) (v:runs W r ba (.cj x m n::k) u l H K):
  Au W r (if x then ba else mu) o m dm H λ v H=>runs W r ba k (v::st) l H K:=by
 have v:dp (u.drop n) λ o st'=>Au W r (if x then ba else mu) o m (u.take n).reverse H λ v H=>runs W r ba k (v::st') l H K:=v
 rw [J,a] at v;exact v
theorem W1 (K':dR W) (x:Bool) {f:aW} {g:aP} {es:gk} {fh p:cn} (xs:eV W r c es) (hd:f≠("__debug__":aW)) (ao:c.kind f=some .globalImplicit) (d:sX.lookup f=some g):vc W r c x (.Call (.Name f fh) es [] p) λ k=>xs.f (.call x g es.length::k):=by
 intro env A fr l H s E k st ba K X v h;show aR _ _ (eval (.Name f fh) env>>=λ i=>callWith p i [] (px p (nc es env)) (I1 p (I2 [] env))) _ _ _;refine aG (rt hd (xq K' X ao (K'.3 f g d) (xs.call K' X (AX K' g) v λ vs dm H1 s1 a b j m n=> ?_)));exact cL (call_of K' a j (WZ m n) λ e s' y=>Lq a b h y) (λ v s' x=>x.from b) λ _ _ x=>x
theorem E4 {es:gk} (xs:eV W r c es) (p:cn) (a:es.length<20):methodCallForm (es.length+([]:List Keyword).length) (px p (nc es env)) (I1 p (I2 [] env))=true:=by
 have:(px p (nc es env)).all (λ x=> !x.1)=true:=by
  have:=xs.plain (env:=env) p;rw [Si] at this;exact kT.mpr λ x b=>by rw [zL];exact Bool.eq_false_iff.mpr (this x b)
 unfold methodCallForm;rw [this];exact decide_eq_true (bX a (by decide:20<30))
theorem W2 (K':dR W) (x:Bool) {f:aW} {m:kl} {es:gk} {a p:cn} (y:de W r c o) (xs:eV W r c es) (q:y.ab=true) (t:a.endLine=p.line) (b:es.length<20) (w:xr f m):vc W r c x (.Call (.Attribute o f a) es [] p) λ k=>y.f (.cG m::xs.f (.cj x m es.length::k)):=by
 intro env A fr l H s E k st ba K X v z;rw [S7,y.Ll q];refine nA X (y.ok X v) λ u s1 bg H1 d B g h=> ?_;refine aG (fA ?_);unfold S8;rw [E4 xs p b];refine aG (eb (Wt K' d w g h.1 (aG ?_)));rw [show S9 true o env a p=pure p from if_pos (show (false||a.endLine==p.line)=true from beq_iff_eq.mpr t)];refine bl (xs.call K' d (Wr K' m) h.2 λ vs dm F G i j C b D=> ?_);have n:=B.trans j;exact cL (Ws i (g.stays (j.kZ d.2.1)) C (W0 (xy b).1 (xy b).2 D) λ e s' y=>Lq i n z y) (λ v s' x=>x.from n) λ _ _ x=>x
noncomputable def Lu (K':dR W) (x:Bool) (f:aW) (fh p:cn) {es:gk} (xs:eV W r c es):Option {g//vc W r c x (.Call (.Name f fh) es [] p) g}:=
 if hd:f=("__debug__":aW) then none else if ao:c.kind f=some .globalImplicit then (match e:sX.lookup f with
  | some g=>some ⟨_,W1 K' x xs hd ao e⟩
  | none=>none) else none
noncomputable def Lv (K':dR W) (x:Bool) (y:de W r c o) (a:aW) (b p:cn) {es:gk} (xs:eV W r c es):Option {g//vc W r c x (.Call (.Attribute o a b) es [] p) g}:=
 if h:y.ab=true/\ b.endLine=p.line/\ es.length<20 then (Wn a).map λ m=>⟨_,W2 K' x y xs h.1 h.2.1 h.2.2 m.2⟩ else none
noncomputable def de.call {f:cu} {es:gk} {ks:List Keyword} {p:cn} (ab:Bool) (h:ab=true->∀i env d,wL (.Call f es ks p) i env d=d) (g:{g//vc W r c false (.Call f es ks p) g}):de W r c (.Call f es ks p):=
 have ok:fi W r c (.Call f es ks p) g.1:=λ X v=>g.2 X v λ e=>zM e
 ⟨g.1,λ a b k=>g.1 (.cf a b::k),ab,ok,E1 ok λ _ _=>rfl,⟨λ _ _=>rfl,λ _ _=>rfl,λ _ _=>rfl,λ _=>rfl⟩,h,.no λ _ _ _=>rfl⟩
theorem W3 {f:aW} {fh p:cn} {es:gk} (h:(f !="super")=true) (b:aW) (env:b0) (a:Sem aE):wL (.Call (.Name f fh) es [] p) b env a=a:=by
 cases es with
 | nil=>unfold wL;dsimp only;rw [show (f !=bj "super")=true from h];rfl
 | cons=>rfl
theorem W4 {es:gk} {k:Nat} {p:cn} (xs:eV W r c es) (f:es.length<=100):fi W r c (.Tuple es k p) λ k=>xs.f (.tup es.length::k):=by
 intro env A fr l H s E k st ba K X v;rw [arm_eval_Tuple];refine aG (fA (aG (cL (xs.spliced p X v) (λ vs s1 x=> ?_) λ _ _ x=>x)));obtain ⟨dm,H1,a1,a2,bA,d,b⟩:=x;have q:=xy (st:=st) d;refine SE ?_ (bA.length▸d▸bB f (by rw [jX];decide))
 have b:runs W r ba k (.tup ((dm.reverse++st).take es.length).reverse::(dm.reverse++st).drop es.length) l H1 K:=b;rw [q.1,q.2] at b;exact (q3 a1 s1.toks (λ a o e=>dP _ e) (.tup (hc _ rfl) ⟨rfl,rfl⟩ rfl (bA.stays (.push _ _))) b).from a2
theorem W5 {es:gk} {p:cn} (xs:eV W r c es) (f:es.length<=100):fi W r c (.List es p) λ k=>xs.f (.list es.length::k):=by
 intro env A fr l H s E k st ba K X v;rw [arm_eval_List];refine aG (fA (aG (cL (xs.spliced p X v) (λ vs s1 x=> ?_) λ _ _ x=>x)));obtain ⟨dm,H1,a1,a2,bA,d,b⟩:=x;have q:=xy (st:=st) d;refine IE ?_ (bA.length▸d▸bB f (by rw [jX];decide))
 have b:∀a,H1 a=none->runs W r ba k (.ref a::(dm.reverse++st).drop es.length) l (H1.upd a (.list ((dm.reverse++st).take es.length).reverse)) K:=b;rw [q.1,q.2] at b;exact (pJ a1 s1.toks (gA _) (λ a o e=>dP _ e) (hc _ rfl) bA b).from a2
noncomputable def W6 {es:gk} (k:Nat) (p:cn) (xs:eV W r c es):Option (de W r c (.Tuple es k p)):=
 if h:es.length<=100 then some (.gen (λ k=>xs.f (.tup es.length::k)) (W4 xs h) ⟨λ _ _=>rfl,λ _ _=>rfl,λ _ _=>rfl,λ _=>rfl⟩ (λ _ _=>rfl) (λ _ _ _=>rfl) λ _ _ _=>rfl) else none
noncomputable def W7 {es:gk} (p:cn) (xs:eV W r c es):Option (de W r c (.List es p)):=
 if h:es.length<=100 then some (.gen (λ k=>xs.f (.list es.length::k)) (W5 xs h) ⟨λ _ _=>rfl,λ _ _=>rfl,λ _ _=>rfl,λ _=>rfl⟩ (λ _ _=>rfl) (λ _ _ _=>rfl) λ _ _ _=>rfl) else none
theorem W8 (K':dR W) (S:bW W H h) (sh:Shape):iW W.G (h.push {cls:= .type "dict",data:= .dict #[]}) h.objs.size sh []:=
 ⟨#[],0,⟨hc _ rfl,.nil,(λ _ h=>(by cases h)),.nil,rfl,K'.size S⟩⟩
theorem Lw (K':dR W) {s:a4} (X:At W r c env A fr l H s) (sh:Shape):
  At W r c env A fr l (H.upd s.heap.objs.size (.dict sh [])) {s with heap:=s.heap.push {cls:= .type "dict",data:= .dict #[]}}∧bh W cT H s.heap (H.upd s.heap.objs.size (.dict sh [])) (s.heap.push {cls:= .type "dict",data:= .dict #[]}):=by
 have c:gH W (H.upd s.heap.objs.size (.dict sh [])) (s.heap.push {cls:= .type "dict",data:= .dict #[]}) s.heap.objs.size (.dict sh []):=W8 K' X.2.1 sh;have K:=bh.mr X.2.1 cT (gA _) (λ _ _ e=>dP _ e) uX c;exact ⟨X.move (X.2.heap (X.2.1.mr (gA _) (λ _ _ e=>dP _ e) uX c) s.toks) K,K⟩
theorem W9 (K':dR W) {p:cn}:fi W r c (.Dict [] [] p) λ k=> .iE::k:=by
 intro env A fr l H s E k st ba K X v;obtain ⟨sh,v⟩:=v;have n:=Lw K' X sh;exact wpAny_Dict_empty ⟨.ref _,_,n.1.2,n.2,.ref _,v _ X.2.1.Al⟩
theorem Xa (K':dR W) {a b:cu} {p:cn} {f g:aJ->aJ} (J:fi W r c a f) (j:fi W r c b g):fi W r c (.Dict [some a] [b] p) λ k=> .iE::f (g (.sU::k)):=by
 intro env A fr l H s E k st ba K X v;obtain ⟨sh,v⟩:=v;have n:=Lw K' X sh;refine wpAny_Dict_any rfl rfl (agK _ _) (by decide:1<=15) ?_
 show aR _ _ (evalPairs [(eval a env,eval b env>>=λ y=>standAt p>>=λ _=>pure y)]) _ _ _;refine evalPairs_cons (ij n.1 (J n.1 (v _ X.2.1.Al)) λ u s1 bg H1 h m o q=>nA h (j h q) λ x G I L e i B C=>aG (fA (bl ?_)));obtain ⟨z,sh,d⟩:=C;obtain rfl:s.heap.objs.size=z:=ai.ref.inj d.1;refine evalPairs_nil ?_;show aR _ _ (wj [(u,x)] PUnit.unit _) _ _ _;rw [R6];refine aG (aG (Ei (W:=W) (a9 (pl (by decide:9<=70) _) e.units) (e.2.1.1 _ _ d.2.1) (o.stays (i.kZ h.2.1)) d.2.2.1 B (by decide) λ h' t D F=>bl ?_))
 show aR _ _ (wj ([]:List (aE×aE)) PUnit.unit _) _ _ _;rw [List.forIn_nil];have w:=Ez e.2 d.2.1 D F;exact bl ⟨.ref _,_,e.2.heap w.1 t,(n.2.trans (m.trans i)).trans w.2,.ref _,d.2.2.2⟩
noncomputable def Xc (K':dR W) (p:cn):de W r c (.Dict [] [] p):=
 .gen (λ k=> .iE::k) (W9 K') ⟨λ _ _=>rfl,λ _ _=>rfl,λ _ _=>rfl,λ _=>rfl⟩ (λ _ _=>rfl) (λ _ _ _=>rfl) λ _ _ _=>rfl
noncomputable def Xd (K':dR W) {a b:cu} (p:cn) (x:de W r c a) (y:de W r c b):de W r c (.Dict [some a] [b] p):=
 .gen (λ k=> .iE::x.f (y.f (.sU::k))) (Xa K' x.ok y.ok) ⟨λ _ _=>rfl,λ _ _=>rfl,λ _ _=>rfl,λ _=>rfl⟩ (λ _ _=>rfl) (λ _ _ _=>rfl) λ _ _ _=>rfl
end
end
section
noncomputable def mF (sc:ia):bZ:=(sc.names.filter λ n=>n.1 !=(".0":aW)&&n.2== .local).map (·.1)
noncomputable def la (sc:ia):bZ:=(sc.names.filter λ n=>n.2== .free).map (·.1)
noncomputable def lV (c:bq) (sc:ia):bq:=⟨{sc with names:=sc.names.map λ (n,k)=>if (k== .free&&c.scope.kind== .function&&c.kind n==some .cell) then (n,.cell) else (n,k)},mF sc++la sc⟩
noncomputable abbrev vd (c:bq) (sc:ia):Prop:=eT (sc.kind= .function) (∀x∈mF sc,(lV c sc).kind x=some .local) (∀x∈la sc,(lV c sc).kind x=some .cell/\ c.kind x=some .cell) ((mF sc++la sc).Nodup) (∀p∈sc.names,p.2≠ .cell) (∀p∈sc.names,p.2= .local->sc.names.lookup p.1=some .local)
noncomputable def Xe (c:bq) (sc:ia):Decidable (vd c sc):=decidable_of_iff (sc.kind= .function/\ (∀x∈mF sc,(lV c sc).kind x=some .local)/\ (∀x∈la sc,(lV c sc).kind x=some .cell/\ c.kind x=some .cell)/\ (mF sc++la sc).Nodup/\ (∀p∈sc.names,p.2≠ .cell)/\ ∀p∈sc.names,p.2= .local->sc.names.lookup p.1=some .local)
 ⟨λ h=>⟨h.1,h.2.1,h.2.2.1,h.2.2.2.1,h.2.2.2.2.1,h.2.2.2.2.2⟩,λ h=>⟨h.1,h.2,h.3,h.4,h.5,h.6⟩⟩
abbrev xD (c:bq) (sc:ia):=dk (λ x j=>Var c x j) (la sc)
noncomputable def Lx (c:bq):(xs:bZ)->Option {a:aw//dk (λ x j=>Var c x j) xs a}
 | []=>some ⟨[],.nil⟩
 | x::xs=>(u7 c x).bind λ j=>(Lx c xs).map λ a=>⟨j.1::a.1,.cons j.2 a.2⟩
section
variable {W:a0} {c:bq} {env:b0} {l:cq} {H:ag} {h:a3} {sc:ia}
noncomputable def nE (env:b0) (sc:ia):List (aW×ak):=(la sc).reverse.map λ n=>(n,(env.cells.lookup n).getD 0)
theorem Xf {β:Type} {f:aW->β} {x:aW}:∀{L:bZ},(L.map λ n=>(n,f n)).lookup x=if x∈L then some (f x) else none:=by
 intro L
 induction L with
 | nil=>
  exact (if_neg (zm)).symm
 | cons y L ih=>
  rw [fe,uD]
  by_cases e:x=y
  ·rw [if_pos (e▸.head _),show (x==y)=true from beq_iff_eq.mpr e,e]
  ·rw [show (x==y)=false from beq_eq_false_iff_ne.mpr e];show (L.map λ n=>(n,f n)).lookup x=_;rw [ih]
   by_cases m:x∈L
   ·rw [if_pos m,if_pos (.tail _ m)]
   ·rw [if_neg m,if_neg λ q=>(dZ.mp q).elim e m]
theorem E5 {x:aW}:(nE env sc).lookup x=if x∈la sc then some ((env.cells.lookup x).getD 0) else none:=by
 refine Xf.trans ?_
 by_cases m:x∈la sc
 ·rw [if_pos m,if_pos (ahR.mpr m)]
 ·rw [if_neg m,if_neg λ q=>m (ahR.mp q)]
theorem dU.E6 (R:dU W c env H l h) (F:vd c sc) (aI:xD c sc ei) {x:aW} (b:x∈la sc):∃a,env.cells.lookup x=some a:=by
 obtain ⟨i,d⟩:=oh b;obtain ⟨j,aD⟩:=aI.get' d;obtain ⟨f,_,e,_⟩:=R.6.6.1 j x aD.2.1 (F.3 x b).2;exact ⟨f,e⟩
theorem dU.nE (R:dU W c env H l h) (F:vd c sc) (aI:xD c sc ei):closureFor sc env=pure (nE env sc):=by
 have key:∀(ns:List (aW×qI)) (b:List (aW×ak)),(∀x∈(ns.filter λ n=>n.2== .free).map (·.1),∃a,env.cells.lookup x=some a)->
   (wj ns b λ (x:aW×qI) (cs:List (aW×ak))=>(if x.2== .free then (do let a <- cellOf env x.1;pure (CV ((x.1,a)::cs))) else pure (CV cs):Sem _))=pure ((((ns.filter λ n=>n.2== .free).map (·.1)).reverse.map λ n=>(n,(env.cells.lookup n).getD 0))++b):=by
  intro ns
  induction ns with
  | nil=>intro b _;rfl
  | cons x ns ih=>
   intro b h;rw [R6]
   by_cases ao:(x.2==NameKind.free)=true
   ·rw [Dk (p:=λ n:aW×qI=>n.2== .free) ao] at h ⊢;obtain ⟨a,d⟩:=h _ (.head _);rw [if_pos ao,show cellOf env x.1=pure a by unfold cellOf;rw [d]]
    refine (ih ((x.1,a)::b) λ y f=>h y (.tail _ f)).trans (congrArg pure ?_);rw [fe,zp,eR,jy];show _=_++(x.1,(env.cells.lookup x.1).getD 0)::b;rw [d];rfl
   ·rw [Dj (p:=λ n:aW×qI=>n.2== .free) ao] at h ⊢;rw [if_neg ao];exact ih b h
 have e:closureFor sc env=((wj sc.names [] λ (x:aW×qI) (cs:List (aW×ak))=>(if x.2== .free then (do let a <- cellOf env x.1;pure (CV ((x.1,a)::cs))) else pure (CV cs):Sem _))>>=λ cs=>pure cs):=rfl
 rw [e,key sc.names [] λ x g=>R.E6 F aI g,h9]
 rfl
theorem Xg (R:dU W c env H l h) (sc:ia):relabel sc env=(lV c sc).scope:=by
 unfold relabel lV bq.kind SU;rw [R.1]
theorem A5 {α:Type} {a b:List α} {i:Nat} {x:α} (h:(a++b)[i]? =some x):(i<a.length∧a[i]? =some x)∨(a.length<=i∧b[i - a.length]? =some x):=
 if e:i<a.length then .inl ⟨e,(jY e).symm.trans h⟩ else .inr ⟨fD e,(jA (fD e)).symm.trans h⟩
theorem E7 {i:Nat} {b:List (Option ai)} (h:(eQ n none++b)[i]? =some (some bg)):n<=i∧b[i - n]? =some (some bg):=by
 rcases A5 h with z | z
 ·exact absurd (zN▸z.2) (by split<;>exact λ e=>(by cases e))
 ·rw [mn] at z;exact z
theorem Xh (R:dU W c env H l h) (F:vd c sc) {C:ak} (aI:xD c sc ei) (r:h.Ns C m) (s:Own W H h C):
  dU W (lV c sc) (I3 sc (nE env sc) C env) H (pI (mF sc).length ei l) h:=by
 have k:∀x a,(nE env sc).lookup x=some a->x∈la sc∧env.cells.lookup x=some a:=λ x a e=>by
  rewrite [E5] at e
  by_cases m:x∈la sc
  ·rewrite [if_pos m] at e;obtain ⟨b,p⟩:=R.E6 F aI m;exact ⟨m,p.trans (congrArg (λ o:Option ak=>some (o.getD 0)) p▸e)⟩
  ·exact no ((if_neg m).symm.trans e)
 refine ⟨Xg R sc,F.1,R.3,R.4,?_,F.4,λ x g=>(c6.mp g).imp (F.2 x) λ m=>(F.3 x m).1,λ x y d g t=>R.6.3 x y d (k x d g).2 (k y d t).2,λ x d g=>⟨ix _ (k x d g).1,(F.3 x (k x d g).1).1⟩,⟨m,r,λ i x bg n ao f=> ?_⟩,λ i x n ao=> ?_,s⟩
 ·show (eQ (mF sc).length none++ei.map λ j=>(l[j]?).join).length=(mF sc++la sc).length
  (rewrite [cI,cI,mn,cz,aI.length];try (with_reducible rfl))
 ·rcases A5 n with z | z
  ·exact absurd (E7 f).1 (I4 z.1)
  ·exact wJ (dA (ao.symm.trans (F.3 x (cY z.2)).1))
 ·rcases A5 n with z | z
  ·exact wJ (dA (ao.symm.trans (F.2 x (cY z.2))))
  ·have q:=cY z.2;obtain ⟨j,aD⟩:=aI.get' z.2;have v:=aD.2;obtain ⟨d,v,a1,a2,bA,cW⟩:=R.6.6.1 j x v.1 (F.3 x q).2;refine ⟨d,v,E5.trans ((if_pos q).trans (congrArg (λ o:Option ak=>some (o.getD 0)) a1)),a2,bA,λ bg f=>cW bg ?_⟩;have f:=(E7 f).2;rewrite [ff,aD.1] at f;have f:(l[j]?).join=some bg:=dA f;revert f
   match l[j]? with
   | none=>exact no
   | some o=>exact congrArg some
end
end
section
section
variable {prog:gi} {w:fp} {A:c8} {R:ps->a4->Prop} {s:a4}
theorem Xi {b a iter:cu} {scope:ia} {it c:aE} (I:Nat->a4->Prop)
  (i:∀n s,I n s->aR (aX prog w) A (Dp it) (λ r b6=>match r with
   | none=>R (.ok .next) b6
   | some v=>aR (aX prog w) A (Ta a it v) (λ _ d=>aR (aX prog w) A (oi a env v) (λ _ e=>aR (aX prog w) A (eval b env) (λ x f=>
     aR (aX prog w) A (call (.builtin "list.append") [c,x]) (λ _ g=>∃m,m<n/\ I m g) (λ _ _=>False) f)
     (λ _ _=>False) e) (λ _ _=>False) d) (λ _ _=>False) b6) (λ _ _=>False) s)
  (n:Nat) (h:I n s):
  jc (aX prog w) A (.compLoop (.ListComp b [⟨a,iter,[],0⟩] scope pos) 0 it c env) R s:=by
 refine codeAny_loop rfl I (λ n s tc=> ?_) n h;show aR _ _ ((compTurn (.ListComp b [⟨a,iter,[],0⟩] scope pos) 0 it c env).onRaise (λ x=>do I5 x env;theTreesLotGoes x)) _ _ s
 refine wpAny_noted ?_;rw [compTurn_list1];refine aG (fA (aG (cL (i n s tc) (λ r b6 h₁=> ?_) λ _ _ h'=>h'.elim)));cases r with
 | none=>exact bl h₁
 | some v=>
  refine aG (cL h₁ (λ _ d j=> ?_) λ _ _ h'=>h'.elim);exact aG (cL j (λ _ e k=>aG (aG (cL k (λ x f l=>aG (cL l
   (λ _ g o=>bl (bl ⟨rfl,o⟩)) λ _ _ h'=>h'.elim)) λ _ _ h'=>h'.elim))) λ _ _ h'=>h'.elim)
end
section
variable {W:a0} {r:Nat} {H aa:ag} {h h':a3} {A:c8} {s:a4} {E:cA} {D:ak} {items:Array aE} {n:Nat}
theorem Lz {t:cu} {v:aE} {Q:Unit->a4->Prop} (x:hO W I H s.heap) (q:Q () s):aR (aX W.prog W.w) A (Ta t (.ref I) v) Q E s:=by
 obtain ⟨_,_,o,vs,b,hd,aI⟩:=x;have key:∀a:ak,aR (aX W.prog W.w) A (load I>>=λ o=>match o.cls,o.data with
   | .type n,.fields vs=>if (["enumerate","zip","dict_itemiterator","dict_reverseitemiterator","odict_iterator","itertools.zip_longest","itertools.pairwise"].contains n&&vs[0]? ==some (qH a))=true then (rule "for.unpacks-the-owned-tuple">>=λ _=>updateField I 0 .none) else pure ()
   | _,_=>pure ()) Q E s:=by
  intro a;refine aG (wpAny_load b ?_);rw [hd];revert aI;cases o.cls with
  | type n=>
   intro aI;have:["enumerate","zip","dict_itemiterator","dict_reverseitemiterator","odict_iterator","itertools.zip_longest","itertools.pairwise"].contains n=false:=
    (by decide:∀n∈["list_iterator","tuple_iterator","range_iterator","dict_keyiterator"],["enumerate","zip","dict_itemiterator","dict_reverseitemiterator","odict_iterator","itertools.zip_longest","itertools.pairwise"].contains n=false) n (ahS.mp aI)
   dsimp only;rw [this];exact bl q
  | _=>exact λ _=>bl q
 unfold Ta;cases t<;>first | exact bl q | skip
 all_goals (cases v<;>first | exact bl q | exact key _)
noncomputable abbrev Acc (W:a0) (D:ak) (H:ag) (h:a3) (items:Array aE) (n:Nat):Prop:=iV (h.get? D=some {cls:= .type "list",data:= .seq items n}) (¬d2 H h D) (H D=none) (W.h0.get? D= .none)
theorem Acc.keep (x:Acc W D H h items n) {P:ak->Prop} (k:bh W P H h aa h') (a:¬P D):Acc W D aa h' items n:=by
 have nm:¬d2 aa h' D:=λ m=>(k.2 D a m).elim x.2 λ q=>no (q.symm.trans x.1);refine ⟨?_,nm,kO.mpr λ bT e=> ?_,x.4⟩
 ·cases k.1 D _ x.1 x.2 a with
  | s e=>exact e
  | f c=>exact c.elim λ _ _ c=>e4 c
 ·cases bT with
  | gG xs=>exact no (x.3.symm.trans (k.4 _ _ e))
  | _=>exact nm (.o _ e trivial)
theorem Acc.mD (x:Acc W D H h items n):∀o,h.get? D=some o->¬Still o:=λ o e s=>(dC e x.1▸s:Still _).cls (v:= .type "list") rfl (by decide) (by decide)
theorem Acc.push (x:Acc W D H h items n) (S:bW W H h) (v:aE):∃a,ny W D H h (h.update D (iR λ x=>x.push v))∧Acc W D H (h.update D (iR λ x=>x.push v)) (items.push v) a:=by
 obtain ⟨a,e⟩:=Kq items n (λ x=>x.push v);have w:ny W D H h (h.update D (iR λ x=>x.push v)):=(eB.off (D:=(· =D)) (λ b o d=>d▸x.mD o) (λ b d=>d▸x.4) (λ b d=>d▸x.2) (λ b d=>d▸x.3) λ b o n k=>((qE ..).2 b n).trans k).wrote S x.2;exact ⟨a,w,(sy _ x.1 (e▸rfl)).trans (congrArg some e),w.3,x.3,x.4⟩
def ve (I L D:ak) (a:ak):Prop:=a=I∨a=L∨a=D
noncomputable abbrev Apart (fr:List b0) (b:b0) (I D:ak):Prop:=jC (∀e∈fr,∀L,e.frame=some L->¬ve I b.locals D L) (∀x a,b.cells.lookup x=some a->¬ve I b.locals D a) (I≠b.locals) (I≠D) (b.locals≠D)
inductive CompI (W:a0) (nF:bq) (fk:b0) (lb:cq) (I D:ak) (St:Nat->a3->Prop) (H1:ag) (J:a3) (Xl:aV->ag->Prop) (i:Nat) (t:a4):Prop
 | mk (gX:aV) (items:Array aE) (m:Nat) (aa:ag) (S:b4 W aa t) (k:bh W (ve I fk.locals D) H1 J aa t.heap) (st:St i t.heap) (off:hO W I aa t.heap) (R:dU W nF fk aa lb t.heap) (acc:Acc W D aa t.heap items m) (E8:dQ W.G t.heap items.toList gX) (hW:gX.length=i) (v:Xl gX aa)
noncomputable abbrev LA (W:a0) (a:b0) (I D:ak) (H1:ag) (J:a3) (aa:ag) (t:a4) (b:aV) (items:Array aE) (m:Nat):Prop:=eT (b4 W aa t) (bh W (ve I a.locals D) H1 J aa t.heap) (Acc W D aa t.heap items m) (dQ W.G t.heap items.toList b) (Own W aa t.heap a.locals) (∃m,t.heap.Ns a.locals m)
def LB (W:a0) (r:Nat) (e1:gJ) (a:cq) (b:aJ) (E:ag->Prop) (x:ai) (H:ag) (K:KE):Prop:=
 ∃a7,lM e1 x a=some a7∧runs W r E b [] a7 H λ cy s _ aa=>cy= .next∧∃v,s=[v]∧K v aa
theorem Xm {g:bq} {c:b0} {N O iter:cu} {scope:ia} {f:aJ->aJ} {pQ:Nat} {cp:List (Option ai)} {ok:ag->Prop} {St:Nat->a3->Prop} {R:ps->a4->Prop}
  (E:Iter W I xs ok St) (room:ow W r A fr H1 s.heap) (b:Apart fr c I D) (b8:rp g O e1) (bK:∀i∈e1.vb,i<pQ) (Xn:∀i,i<pQ->∀x,g.names[i]? =some x->g.kind x=some .local)
  (Xo:fi W r g N f) (hz:xs.length<=lim)
  (fin:∀aa t d items m,LA W c I D H1 s.heap aa t d items m->(∀a,aa a=none->Q (.ref a) (aa.upd a (.list d)))->R (.ok .next) t) (t:a4)
  (inv:CompI W g c (eQ pQ none++cp) I D St H1 s.heap (λ d aa=>pH ok (LB W r e1 (eQ pQ none++cp) (f []) ba) xs d aa Q) 0 t):
  jc (aX W.prog W.w) A (.compLoop (.ListComp N [⟨O,iter,[],0⟩] scope pos) 0 (.ref I) (.ref D) c) R t:=by
 refine Xi (λ n t=>∃i,i<=xs.length∧n=xs.length - i∧CompI W g c (eQ pQ none++cp) I D St H1 s.heap (λ d aa=>pH ok (LB W r e1 (eQ pQ none++cp) (f []) ba) (xs.drop i) d aa Q) i t) ?_ xs.length ⟨0,dz _,rfl,inv⟩;rintro n t ⟨i,P,rfl,⟨d,items,m,aa,S,k,st,off,vf,acc,T,U,v⟩⟩;have V:∀{h'},ny W I aa t.heap h'->dU W g c aa (eQ pQ none++cp) h'∧Acc W D aa h' items m∧dQ W.G h' items.toList d∧bh W (ve I c.locals D) H1 s.heap aa h':=λ w=>
  ⟨vf.u9 w.2 b.3.symm (λ x a e q=>b.2 x a e (.inl q):∀x a,c.cells.lookup x=some a->a≠I) w.4,acc.keep w.2 b.4.symm,T.stays w.4,k.trans (w.2.weak λ a p=> .inl p)⟩
 by_cases B:i<xs.length
 ·rw [wD B] at v;obtain ⟨H,a7,J,v⟩:=v;refine E.item A i xs[i] aa t _ _ room.3 S H off st (c4 B) λ u h' tk eI w C st'=>Lz (s:={t with heap:=h',toks:=tk}) C ?_;have F:=V w;have loc:∀j∈e1.vb,mE (· =c.locals) g c j:=λ j G x ay=>⟨λ _=>rfl,λ ca _ ao=>wJ (dA (ao.symm.trans (Xn j (bK j G) x ay)))⟩;refine cL (EZ (s:={t with heap:=h',toks:=tk}) room.3 F.1 (S.heap w.1 tk) b8 loc eI J) (λ _ t2 h=> ?_) λ _ _ x=>x;have k3:=F.2.2.2.trans (h.2.weak λ a p=> .inr (.inl p));have K:At W r g c A fr a7 aa t2:=⟨⟨room.1,room.2,room.3,room.4,room.5.keep k3 b.1⟩,h.1,h.3⟩;refine ij K (Xo K v) λ y X bg jj L z dh ti=> ?_;obtain ⟨Es,Y⟩:=ti.2;obtain rfl:bg=Es:=List.head_eq_of_cons_eq Y.1;have M:=(F.2.1.keep h.2 b.5.symm).keep z id;have Z:=h.4.trans (z.kZ K.2.1);obtain ⟨dr,l⟩:=M.push L.2.1 y;refine ui Sp ⟨_,M.1,rfl⟩ ag5 (ag6 _ _) (list_append D items m y (k7 ((show items.size=xs.length∨items.size<=xs.length from .inr ((show items.size=i from T.length.trans U)▸P)).elim (λ e=>e▸hz) λ e=>bB e hz))) ⟨M.1,?_⟩;refine ⟨xs.length - (i+1),Sx B (gj i),i+1,B,rfl,⟨d++[bg],items.push y,dr,jj,L.2.heap l.1.1 X.toks,(k3.trans z.gI).trans (l.1.2.weak λ a p=> .inr (.inr p)),?_,?_,?_,l.2,?_,?_,Y.2⟩⟩
  ·exact E.move _ _ _ (E.move _ _ _ st' Z (λ o e=>((C.keep h.2 b.3).same z id) o (C.same h.2 b.3 o e):∀o,h'.get? I=some o->X.heap.get? I=some o)) l.1.4 (((C.keep h.2 b.3).keep z id).same l.1.2 b.4)
  ·exact ((C.keep h.2 b.3).keep z id).keep l.1.2 b.4
  ·refine dU.weaken (L.3.u9 l.1.2 b.5 (λ x a e q=>b.2 x a e (.inr (.inr q))) l.1.4) (WC J).symm λ j bv G=>(WB J (i:=j) λ q bk e=> ?_).trans G;exact I4 (e▸bK q bk) (E7 G).1
  ·rw [CW];exact ((F.2.2.1.stays Z).append (.cons dh .nil)).stays l.1.4
  ·rw [cI,U];rfl
 ·obtain rfl:i=xs.length:=dg P (fD B);rw [Tb] at v;obtain ⟨H,v⟩:=v;refine E.done A aa t _ _ room.3 S H off st λ h' tk w=> ?_;have aD:=V w;obtain ⟨mm,hm,_⟩:=aD.1.6.5;exact fin aa {t with heap:=h',toks:=tk} d items m ⟨S.heap w.1 tk,aD.2.2.2,aD.2.1,aD.2.2.1,aD.1.6.6.2,mm,hm⟩ v
end
end
section
inductive CompEnd (W:a0) (H:ag) (h:a3) (Q:KE) (acc:aE) (C:ak) (t:a4):Prop
 | mk (bg:ai) (aa:ag) (r:bt W.G t.heap acc bg) (S:b4 W aa t) (k:bh W cT H h aa t.heap) (own:Own W aa t.heap C) (m:aW->Option aE) (ns:t.heap.Ns C m) (new:h.get? C=none) (q:Q bg aa)
structure ry (W:a0) (r:Nat) (c:bq) (elt t it:cu) (sc:ia) where
 F:vd c sc
 ei:aw
 aI:xD c sc ei
 x:de W r (lV c sc) elt
 e1:gJ
 b8:rp (lV c sc) t e1
 bK:∀i∈e1.vb,i<(mF sc).length
 y:de W r c it
noncomputable def ry.f {a t:cu} {sc:ia} (C:ry W r c a t it sc) (k:aJ):aJ:=C.y.f (.comp C.e1 (mF sc).length C.ei (C.x.f [])::k)
section
variable {W:a0} {r:Nat} {c:bq} {env:b0} {A:c8} {fr:List b0} {l:cq} {H:ag} {s:a4} {E:cA}
theorem dU.Xp (R:dU W c env H l s.heap) {x:aW} {a:ak} (e:env.cells.lookup x=some a):∃o,s.heap.get? a=some o:=(R.aI x a e).elim λ _ z=>z.elim λ o z=>⟨o,z.1⟩
noncomputable abbrev Xq (W:a0) (c:bq) (env:b0) (l:cq) (H:ag) (h h':a3) (sc:ia) (D:ak) (ei:aw):Prop:=eT (bW W H h') (bh W cT H h H h') (Acc W D H h' #[] 0) (dU W (lV c sc) (I3 sc (nE env sc) (D+1) env) H (pI (mF sc).length ei l) h') (h.get? D=none) (h.get? (D+1)=none)
theorem blank {J b:a3} (S:bW W H h) (R:dU W c env H l h) {sc:ia} (F:vd c sc) (aI:xD c sc ei) (k1:∀a o,h.get? a=some o->J.get? a=some o) (k3:∀a o,J.get? a=some o->b.get? a=some o)
  (p:b.get? J.objs.size=some {cls:= .type "list",data:= .seq #[] 0}) (g:b.Ns (J.objs.size+1) m):Xq W c env l H h b sc J.objs.size ei:=by
 have fresh:∀a,J.objs.size<=a->h.get? a=none:=λ a d=>kO.mpr λ o e=>I4 (iu (k1 a o e)) d;have ks:∀a o,h.get? a=some o->b.get? a=some o:=λ a o e=>k3 a o (k1 a o e);have nm:∀a,J.objs.size<=a->¬d2 H b a:=λ a d m=>(S.qU (d2.grow S ks m)).elim λ bT z=>no ((fresh a d).symm.trans z.1);have i:bh W cT H h H b:=bh.grows S _ ks;have f:=fresh _ (dn _);have j:=fresh _ (sF J.objs.size);refine ⟨S.grow ks,i,⟨p,nm _ (dn _),S.none_of f,S.oo f⟩,Xh (R.keep S i) F aI g ?_,f,j⟩;obtain ⟨r,es,ep,s,k,_⟩:=g;exact ⟨S.oo j,nm _ (sF _),r,s,(λ t n q=>e4 (k.symm.trans q)),λ vs q=>e4 (k.symm.trans q)⟩
theorem LH {a:aV} (c:b≠D) (m:d2 (aa.upd D (.list a)) h b):d2 aa h b:=by
 cases m with
 | o o e m=>exact .o o ((ag.er _ _ c).symm.trans e) m
 | d x q=>
  by_cases e:x=D
  ·exact (uS uW (e▸q)).elim
  ·obtain ⟨C,fs,dT,f,g,i⟩:=q;exact .d x ⟨C,fs,dT,(ag.er _ _ e).symm.trans f,g,i⟩
theorem Xr {J g:a3} {C:ak} {i:b0} {c:aV} {m:Nat} {t:a4} (j:bh W cT H h H1 J) (k3:bh W cT H1 J H1 g) (n:i.locals=C) (o:J.get? I=none) (k:J.get? D=none) (l:J.get? C=none) (r:C≠D)
  (f:LA W i I D H1 g aa t c items m) (q:∀a,aa a=none->Q (.ref a) (aa.upd a (.list c))):CompEnd W H h Q (.ref D) C t:=by
 obtain rfl:=n;have d:bh W cT H1 J aa t.heap:=(k3.gI.trans f.2).drop λ a p=>p.elim (λ e=>e▸o) λ p=>p.elim (λ e=>e▸l) λ e=>e▸k;have s:gH W (aa.upd D (.list c)) t.heap D (.list c):=⟨items,m,f.3.1,f.4⟩;obtain ⟨cM,u,v,w,y,z⟩:=f.5;obtain ⟨m,A⟩:=f.6;exact ⟨.ref _,_,.ref _,⟨f.1.1.adopt f.3.2 f.3.4 uW s,f.1.2,f.1.3⟩,j.trans (⟨d.1,λ b p m=>if e:b=D then .inr (e▸k) else d.2 b p (LH e m),d.3,λ b xs e=>if x:b=D then c5.noConfusion (dA ((ag.fL aa D _).symm.trans (x▸e))) else d.4 b xs ((ag.er _ _ x).symm.trans e)⟩:bh W cT H1 J (aa.upd D (.list c)) t.heap),⟨cM,λ m=>u (LH r m),v,w,y,z⟩,m,A,j.3 _ id l,q _ f.3.3⟩
theorem LJ {y t:cu} {sc:ia} (C:ry W r c y t it sc) (pos:cn) (X:At W r c env A fr l H s) {k:aJ} {K:dK} (v:runs W r ba (C.f k) st l H K):
  aR (aX W.prog W.w) A (eval it env) (λ x b6=>aR (aX W.prog W.w) A (pyIter x) (λ Fc nx=>aR (aX W.prog W.w) A (newList []) (λ O mG=>
   aR (aX W.prog W.w) A (newFunctionEnv sc env.globals (nE env sc) [] env.qual none .none (some env)) (λ R A6=>
    jc (aX W.prog W.w) A (.compStart (.ListComp y [⟨t,it,[],0⟩] sc pos) 0 Fc O {R with scope:=relabel sc env}) (λ F t=>F= .ok .next∧CompEnd W H s.heap (λ v aa=>runs W r ba k (v::st) l aa K) O R.locals t) A6) E mG) E nx) E b6) E s:=by
 have aI:=C.3;refine ij X (C.8.ok X v) λ u s1 o H1 d cc bG v1=> ?_;refine Lg d.2 bG v1 λ xs ok I St h' P N=>IE (s:={s1 with heap:=h'}) ?_ (dz _)
 dsimp only;have S:(h'.push {cls:= .type "list",data:= .seq ([]:cH).toArray}).objs.size=h'.objs.size+1:=Tc ..;refine wpAny_newFunctionEnv (s:={s1 with heap:=h'.push {cls:= .type "list",data:= .seq ([]:cH).toArray}}) C.1.5 (λ p ax=>(by cases ax)) (λ g G J=> ?_) C.1.1
 dsimp only at G J ⊢;rw [S] at G J ⊢;have k3:∀a o,(h'.push {cls:= .type "list",data:= .seq ([]:cH).toArray}).get? a=some o->g.get? a=some o:=λ a o e=>(J.2 a (e6 (S▸iu e))).trans (dP _ e);have h:∀a o,h'.get? a=some o->g.get? a=some o:=λ a o e=>k3 a o ((λ a o e=>dP _ e:∀a o,h'.get? a=some o->(h'.push {cls:= .type "list",data:= .seq [].toArray}).get? a=some o) a o e);have B:=blank d.2.1 d.3 C.1 aI N.5 h (k3 _ _ (hc _ rfl)) G;have T:I<h'.objs.size:=by obtain ⟨_,_,o,vs,n,_⟩:=N.3;exact iu n
 have U:=N.1.move 0 h' g N.2 (.of_keep h) (h I);have pR:hO W I H1 g:=by
  obtain ⟨a1,a2,o,vs,n,hd,aI⟩:=N.3;exact ⟨a1,λ m=>(d.2.1.qU (d2.grow d.2.1 (λ a o e=>h a o (N.5 a o e)) m)).elim λ _ z=>no (N.4.symm.trans z.1),o,vs,h _ _ n,hd,aI⟩
 have V:∀a o,s1.heap.get? a=some o->¬ve I (h'.objs.size+1) h'.objs.size a:=λ a o e p=>p.elim (λ q=>no (N.4.symm.trans (q▸e))) λ p=>p.elim (λ q=>no (B.6.symm.trans (q▸e))) λ q=>no (B.5.symm.trans (q▸e));have loop:jc (aX W.prog W.w) A (.compLoop (.ListComp y [⟨t,it,[],0⟩] sc pos) 0 (.ref I) (.ref h'.objs.size) (I3 sc (nE env sc) (h'.objs.size+1) env))
   (λ F t=>F= .ok .next∧CompEnd W H s.heap (λ v aa=>runs W r ba k (v::st) l aa K) (.ref h'.objs.size) (h'.objs.size+1) t) {s1 with heap:=g,toks:=s1.toks+([]:List (aW×aE)).length}:=by
  refine Xm (s:={s1 with heap:=g,toks:=s1.toks+([]:List (aW×aE)).length}) (cp:=C.2.map λ j=>(l[j]?).join) (Q:=λ v aa=>runs W r ba k (v::st) l aa K) (ba:=ba) N.1 (d.1.keep B.2) ⟨λ e he L bL=> ?_,λ z a e=> ?_,e6 (ahT T),e6 T,Iz _⟩ C.6 C.7 (λ i D z hz=> ?_) C.4.ok P.1 (λ aa t gX items m f q=>⟨rfl,Xr cc B.2 rfl N.4 B.5 B.6 (Iz _) f q⟩) _ ⟨[],#[],0,H1,d.2.heap B.1 _,bh.refl ..,U,pR,B.4,B.3,.nil,rfl,P.2⟩
  ·obtain ⟨iK,o,Y⟩:=(d.1.5 e he).2;have cB:=Y.2.2.1;exact dC Y.1 bL▸V _ _ cB
  ·have M:=B.4.6.4 z a e;obtain ⟨i,D⟩:=oh M.1;obtain ⟨ca,_,a1,⟨Eu,a2,_⟩,_⟩:=B.4.6.6.1 i z D M.2;rcases A5 D with w | w
   ·exact wJ (dA ((C.1.2 z (cY w.2)).symm.trans M.2))
   ·have e:=(E5 (env:=env) (sc:=sc)).symm.trans e;rw [if_pos (cY w.2)] at e;obtain ⟨b,Z⟩:=d.3.E6 C.1 aI (cY w.2);obtain ⟨o,n⟩:=d.3.Xp Z;rw [Z] at e;exact dA e▸V b o n
  ·exact C.1.2 z (cY ((jY D).symm.trans hz))
 show jc _ A (.compStart (.ListComp y [⟨t,it,[],0⟩] sc pos) 0 (.ref I) (.ref h'.objs.size) (I3 sc (nE env sc) (h'.objs.size+1) env)) _ _;exact codeAny_compStart_list loop (N.1.self A 0 _ _ _ U loop)
theorem LM {d t:cu} {sc:ia} (C:ry W r c d t it sc) (pos:cn):fi W r c (.ListComp d [⟨t,it,[],0⟩] sc pos) C.f:=by
 intro env A fr l H s E k st ba K X v;rw [arm_eval_ListComp];refine ahU (use:=none) rfl (λ x=>C.y.gC.3 _ x) (X.3.nE C.F C.aI) C.F.1 C.F.6 ?_;refine cL (LJ (E:=E) C pos X v) (λ x s1 a1=>cL a1 (λ u y a2=>cL a2 (λ B D bA=>cL bA (λ F G cW=>wI cW λ I t' z=> ?_) λ _ _ e=>e) λ _ _ e=>e) λ _ _ e=>e) λ _ _ e=>e;obtain ⟨rfl,bg,aa,f,S,k,g,m,h,i,q⟩:=z;refine ⟨m,h,λ h' j=> ?_⟩;have w:=g.write S.1 (h':=h') λ b o n e=>(j.2 b n).trans e;exact ⟨bg,aa,S.heap w.1 t'.toks,(k.gI.trans w.2).drop λ a p=>p▸i,f.stays w.4,q⟩
theorem Xw {j t:cu} {sc:ia} (C:ry W r c j t it sc) (pos:cn):Lk W r c j [⟨t,it,[],0⟩] sc pos C.f:=by
 intro env A fr l H s E k st ba K y n i D X v;refine ahU (use:=some (oi (.Name y n) env)) (Q:=λ _ s'=>E0 W c env H s.heap (λ a7 aa=>∃v,a7=l.set i (some v)∧runs W r ba k (v::st) l aa K) s') rfl (λ x=>C.y.gC.3 _ x) (X.3.nE C.F C.aI) C.F.1 C.F.6 ?_;refine cL (LJ (E:=E) C pos X v) (λ x s1 a1=>cL a1 (λ N O a2=>cL a2 (λ F R bA=>cL bA (λ h T cW=>wI cW λ U t' z=> ?_) λ _ _ e=>e) λ _ _ e=>e) λ _ _ e=>e) λ _ _ e=>e;obtain ⟨rfl,bg,aa,G,S,k,u,m,I,B,q⟩:=z;show aR _ A (oi (.Name y n) env F) _ E t';rw [IZ];refine aG (fA (cL (xw (P:=Pv env) (E:=E) (X.3.keep X.2.1 k) S D (mE.gW i) G) (λ _ J d=> ?_) λ _ _ x=>x));have g:¬Pv env h.locals:=λ p=>(X.3.gW p).elim λ o z=>no (B.symm.trans z.1);obtain ⟨V,aD⟩:=u.same d.2 g;refine ⟨m,Ns.same I aD.1 aD.2,λ h' L=> ?_⟩;have w:=(u.keep d.2 g).write d.1.1 (h':=h') λ b o M e=>(L.2 b M).trans e;exact ⟨_,aa,d.1.heap w.1 J.toks,bh.qW (P':=λ a=>Pv env a∨a=h.locals) ((k.gI.trans (d.2.weak λ a p=> .inl p)).trans (w.2.weak λ a p=> .inr p)) (λ a p=>p.imp id λ (e:a=h.locals)=>e▸B),d.3.u9 w.2 (λ e=>g (.inl e.symm)) (λ x a e f=>g (.inr ⟨x,f▸e⟩)) w.4,bg,rfl,q⟩
noncomputable def ry.Xx {d t:cu} {sc:ia} (C:ry W r c d t it sc) (pos:cn):de W r c (.ListComp d [⟨t,it,[],0⟩] sc pos):=
 ⟨C.f,λ a b k=>C.f (.cf a b::k),true,LM C pos,E1 (LM C pos) λ _ _=>rfl,⟨λ _ _=>rfl,λ _ _=>rfl,λ _ _=>rfl,λ _=>rfl⟩,λ _ _ _ _=>rfl,.comp (Xw C pos)⟩
noncomputable def Xy {a:cu} {sc:ia} (t:cu) (pos:cn) (x:de W r (lV c sc) a) (y:de W r c it):Option (de W r c (.ListComp a [⟨t,it,[],0⟩] sc pos)):=
 match Xe c sc with | .isTrue F=>((Lx c (la sc)).bind λ ei=>(Lj (lV c sc) t).bind λ e1=>if h:∀i∈e1.1.vb,i<(mF sc).length then some (ry.Xx ⟨F,ei.1,ei.2,x,e1.1,e1.2,h,y⟩ pos) else none) | .isFalse _=>none
end
end
section
section
variable {W:a0} (K:dR W) (r:Nat)
mutual
noncomputable def gs:(c:bq)->(e:cu)->Option (de W r c e)
 | c,.Constant g k p=>WE c g k p
 | c,.Name x p=>WG K c x p
 | c,.BoolOp d es p=>(pS c es).bind λ xs=>cBool d p xs
 | c,.BinOp a d b p=>(gs c a).bind λ x=>(gs c b).map λ y=> .bin d p x y
 | c,.UnaryOp d a p=>(gs c a).bind λ x=>WL d p x
 | c,.IfExp t a b p=>(gs c t).bind λ x=>(gs c a).bind λ y=>(gs c b).map λ z=> .ite p x y z
 | c,.Compare a _ bs p=>(gs c a).bind λ x=>(pS c bs).bind λ y=>WR p x y
 | c,.Call (.Name f fh) es [] p=>(pS c es).bind λ xs=>(Lu K false f fh p xs).map (.call (f !="super") W3)
 | c,.Call (.Attribute o m h) es [] p=>(gs c o).bind λ y=>(pS c es).bind λ xs=>(Lv K false y m h p xs).map (.call true λ _ _ _ _=>rfl)
 | c,.Attribute o a p=>(gs c o).bind λ x=>WV K a p x
 | c,.Subscript o i p=>(gs c o).bind λ x=>match i with
  | .Slice lo j none q=>(LN c lo).bind λ y=>(LN c j).map λ z=> .slice p q x y z
  | i=>(gs c i).map λ y=> .sub p x y
 | c,.Tuple es k p=>(pS c es).bind λ xs=>W6 k p xs
 | c,.List es p=>(pS c es).bind λ xs=>W7 p xs
 | _,.Dict [] [] p=>some (Xc K p)
 | c,.Dict [some a] [b] p=>(gs c a).bind λ x=>(gs c b).map λ y=>Xd K p x y
 | c,.ListComp l [⟨t,it,[],0⟩] sc p=>(gs (lV c sc) l).bind λ x=>(gs c it).bind λ y=>Xy t p x y
 | _,_=>none
noncomputable def pS:(c:bq)->(es:gk)->Option (eV W r c es)
 | _,[]=>some .nil
 | c,e::es=>(gs c e).bind λ x=>(pS c es).map λ xs=> .cons x xs
noncomputable def LN:(c:bq)->(o:Option cu)->Option (tj W r c o)
 | _,none=>some .none
 | c,some e=>(gs c e).map λ x=> .some x
end
structure pT (W:a0) (r:Nat) (c:bq) (e:cu) where
 f:aJ->aJ
 ok:vc W r c true e f
 sw:A0 W r c e f
variable {K r} in
noncomputable def de.x {e:cu} (x:de W r c e):pT W r c e:=⟨x.f,λ X v _=>x.ok X v,x.sw⟩
noncomputable def Fd (c:bq) (e:cu):Option (pT W r c e):=lU (m:=λ e=>Option (pT W r c e)) e (λ e=>(gs K r c e).map (·.x)) (cl:=λ f es ks p=>match ks with
 | []=>lU (m:=λ f=>Option (pT W r c (.Call f es [] p))) f (λ f=>(gs K r c (.Call f es [] p)).map (·.x)) (nm:=λ f fh=>(pS K r c es).bind λ xs=>(Lu K true f fh p xs).map λ g=>⟨g.1,g.2,.no λ _ _ _=>rfl⟩) (ab:=λ o m a=>(gs K r c o).bind λ y=>(pS K r c es).bind λ xs=>(Lv K true y m a p xs).map λ g=>⟨g.1,g.2,.no λ _ _ _=>rfl⟩)
 | _=>none)
end
end
section
section
variable {W:a0} {A:c8} {s:a4} {E:cA}
theorem Xz {I x:ak} {items:Array aE} {Q:cH->a4->Prop} (g:A.handled=none) (j:x≠I):∀(n i:Nat) (h:a3) (t:Nat),i+n=items.size->h.IsListIter I x i->h.IsList x items->
  (∀h' t,(∀b o,b≠I->h.get? b=some o->h'.get? b=some o)->h'.IsListIter I x items.size->h'.IsList x items->Q (items.toList.drop i) {s with heap:=h',toks:=t})->
  aR (aX W.prog W.w) A (draw (.ref I) n) Q E {s with heap:=h,toks:=t}:=by
 intro n
 induction n generalizing Q with
 | zero=>
  intro i h t a c d q;obtain rfl:i=items.size:=a;have:=q h t (λ _ _ _ e=>e) c d;rw [ag9 (as:=items.toList) (dn items.size)] at this;exact bl this
 | succ n ih=>
  intro i h t a c d q;have bK:i<items.size:=a▸Su (m9 n);refine aG ((Dq (A:=A) g I x j items).item i {s with heap:=h,toks:=t} _ _ bK ⟨c,d⟩ λ v h' t' k st ao=>aG (eb (ih (i+1) h' t' ((qG i 1 n).trans a) st.1 st.2 λ p r u w y=>bl ?_)))
  exact ((wD (l:=items.toList) bK).trans (congrArg (· ::_) (dA ((uj bK).symm.trans k))):items.toList.drop i=v::items.toList.drop (i+1))▸q p r (λ b o f e=>u b o f (ao b o (λ m=>f (b3.mp m)) e)) w y
theorem XB {x:ak} {a:List (Bool×(aE->Sem Unit))} {Q:Unit->a4->Prop} (d:A.handled=none) (c:s.heap.IsList x items)
  (g:a.length=items.size) (i:a.findIdx? (·.1)=none)
  (h:∀h' t,(∀b o,s.heap.get? b=some o->h'.get? b=some o)->aR (aX W.prog W.w) A (S0 (a.map (·.2)) items.toList) Q E {s with heap:=h',toks:=t}):
  aR (aX W.prog W.w) A (unpack (.ref x) a) Q E s:=by
 have bK:x≠s.heap.objs.size:=c.elim λ o z=>e6 (iu z.1);unfold unpack;rw [g,i];refine aG (eb ?_);unfold unpackItems;refine aG ?_;unfold notIterableAtAll;refine aG (Ig c.typeIs slot_list_iter.lookup (bl ?_));rw [if_neg fS];refine aG (eb (SQ c ?_));refine aG (eb (Xz (s:=s) (I:=s.heap.objs.size) (x:=x) (items:=items) d bK items.size 0 _ s.toks (me _) ⟨_,hc _ rfl,rfl,rfl⟩ (c.elim λ o z=>⟨o,dP _ z.1,z.2⟩) λ h' t ao j k=> ?_));rw [agZ,if_neg (show ¬items.toList.length<items.size from iP _)];refine aG (eb ((Dq (A:=A) d s.heap.objs.size x bK items).done {s with heap:=h',toks:=t} _ _ ⟨j,k⟩ λ l n p=> ?_))
 show aR _ _ (pure items.toList) _ _ _;refine bl (h l n λ b o e=> ?_);have f:b≠s.heap.objs.size:=e6 (iu e);exact p b o (λ m=>f (b3.mp m)) (ao b o f (dP _ e))
end
section
variable {W:a0} {r:Nat} {c:bq}
def xG (W:a0) (r:Nat) (c:bq) (t:cu) (g:aJ->aJ):Prop:=∀{env A fr l H s E k st ba K v bg},At W r c env A fr l H s->bt W.G s.heap v bg->runs W r ba (g k) (bg::st) l H K->
 aR (aX W.prog W.w) A (oi t env v) (λ _ s'=>E0 W c env H s.heap (λ a7 aa=>runs W r ba k st a7 aa K) s') E s
inductive Fe (c:bq):cu->(aJ->aJ)->Prop
 | name {y nD i}:Var c y i->Fe c (.Name y nD) (.st (.one i):: ·)
 | other {t g}:(∀elt fj sc p n env,zK (.ListComp elt fj sc p) (some t) n env=pure false)->Fe c t g
structure A9 (W:a0) (r:Nat) (c:bq) (t:cu) where
 g:aJ->aJ
 ok:xG W r c t g
 k:Fe c t g
 one:∀env,wK [t] env=[(false,oi t env)]
theorem XC {y:aW} {b:cn} {i:Nat} (d:Var c y i):xG W r c (.Name y b) (.st (.one i):: ·):=by
 intro env A fr l H s E k st ba K v bg X f q;rw [IZ];refine aG (fA (cL (xw (P:=Pv env) X.3 X.2 d (mE.gW i) f) (λ _ s1 a=> ?_) λ _ _ x=>x));rcases q with ⟨a7,e,q⟩ | ⟨_,_,_,_,e,_⟩
 ·exact ⟨a7,H,a.1,a.2,dA e▸a.3,q⟩
 ·exact (by cases e)
theorem XD {es:gk} {u:Nat} {p:cn} {is:aw} (n:nC c es is):xG W r c (.Tuple es u p) (.st (.tup is):: ·):=by
 intro env A fr l H s E k st ba K v bg X g q;rcases q with ⟨a7,e,q⟩ | ⟨w,x,vs,a7,et,rfl,y,e,q⟩
 ·exact cL (EZ (P:=Pv env) X.1.3 X.3 X.2 (.tup n) (λ i _=>mE.gW i) g e) (λ _ s' a=>⟨a7,H,a.1,a.2,a.3,q⟩) λ _ _ x=>x
 ·obtain rfl:v= .ref x:=g.inv;obtain rfl:is=w:=gJ.tup.inj et;obtain ⟨dm,b,h,rfl⟩:=AZ e;obtain rfl:vs=dm:=ai.tup.inj b;obtain ⟨items,m,j,d⟩:=ig X.2 y;have b:=n.each (env:=env);rw [arm_assign_Tuple];refine aG (fA (XB X.1.3 (gT.isList j d).1 (b.1.trans (h.trans (gT.isList j d).2.symm)) b.2 λ h' t f=> ?_));have o:bh W cT H s.heap H h':=bh.grows X.2.1 _ f;exact cL (n.assign (P:=Pv env) (s:={s with heap:=h',toks:=t}) (λ i _=>mE.gW i) items.toList vs (d.stays (.of_keep f)) (X.3.keep X.2.1 o) (X.2.heap (X.2.1.grow f) t) h) (λ _ s' a=>⟨_,H,a.1,o.gI.trans a.2,a.3,q⟩) λ _ _ x=>x
theorem store_attr (K':dR W) {a:aW} {f:bp} {p:cn} (x:de W r c o) (g:a=f.str):xG W r c (.Attribute o a p) λ k=>x.f (.eh f::k):=by
 intro env A fr l H s E k st ba K v bg X h q;rw [ahV,g];refine aG (eb (ij X (x.ok X q) λ u s1 x H1 b d i j=>aG (fA (aG (eb ?_)))));exact UC K' b.2 i (h.stays (d.kZ X.2.1)) j λ m t n e q=>Td ⟨l,m,n,(d.trans e).gI,b.3.keep b.2.1 e,q⟩
theorem XF {i:cu} {p:cn} (x:de W r c o) (y:de W r c i):xG W r c (.Subscript o i p) λ k=>x.f (y.f (.hl::k)):=by
 intro env A fr l H s E k st ba K v bg X g q;rw [arm_assign_Subscript];refine aG (eb (ij X (x.ok X q) λ u s1 x H1 b d h j=>aG (eb (ij b (y.ok b j) λ y z B C a e m n=>aG (fA (aG (eb ?_)))))));have j3:=e.kZ b.2.1;exact UF a.2 a.EV (h.stays j3) m ((g.stays (d.kZ X.2.1)).stays j3) n λ t D w f q=>Td ⟨l,t,w,((d.trans e).trans f).gI,a.3.keep a.2.1 f,q⟩
noncomputable def vg (K:dR W) (r:Nat) (c:bq) (t:cu):Option (A9 W r c t):=lU (m:=λ t=>Option (A9 W r c t)) t (λ _=>none) (nm:=λ _ _=>(u7 c _).map λ i=>⟨_,XC i.2,.name i.2,λ _=>rfl⟩)
 (tp:=λ es _ _=>(EY c es).map λ n=>⟨_,XD n.2,.other λ _ _ _ _ _ _=>rfl,λ _=>rfl⟩)
 (ab:=λ o a _=>(gs K r c o).bind λ x=>(Ls a).map λ f=>⟨_,store_attr K x f.2,.other λ _ _ _ _ _ _=>rfl,λ _=>rfl⟩)
 (sb:=λ o i _=>(gs K r c o).bind λ x=>(gs K r c i).map λ y=>⟨_,XF x y,.other λ _ _ _ _ _ _=>rfl,λ _=>rfl⟩)
end
end
section
inductive pU (W:a0) (env:b0) (fr:List b0) (d3:ag) (h₀:a3) (E:ag->Prop) (v:aE) (s':a4):Prop
 | mk (s:gr W env fr d3 h₀ E v s') (e:ak) (c7:dq) (vs:Array aE) (T:ak) (ev:v= .ref e) (aH:s'.heap.get? e=some c7) (hd:c7.data= .fields vs) (J:vs[1]? =some (.ref T))
def LP (W:a0):Prop:=∀(env:b0) (outer:List b0) (A:c8) (d3:ag) (h₀:a3) (E:ag->Prop) (e:aE) (t:a4),A.frames=some (env::outer)->(∀b o,W.h0.get? b=some o->h₀.get? b=some o)->gr W env (env::outer) d3 h₀ E e t->
 aR (aX W.prog W.w) A (I5 e env) (λ _ t'=>pU W env (env::outer) d3 h₀ E e t') (λ _ _=>False) t
def LQ (W:a0):Prop:=∀(env:b0) (outer:List b0) (A:c8) (d3:ag) (h₀:a3) (E:ag->Prop) (e:aE) (t:a4) (ba:cA),(∀b o,W.h0.get? b=some o->h₀.get? b=some o)->pU W env (env::outer) d3 h₀ E e t->(∀t',gr W env (env::outer) d3 h₀ E e t'->ba e t')->Ds (aX W.prog W.w) A env ba e t
noncomputable abbrev tl (W:a0) (env:b0) (outer:List b0):Prop:=iV (env.frame=some env.locals) (∀e∈outer,∀L,e.frame=some L->¬Pv env L) (LP W) (LQ W)
inductive vh (W:a0) (h:a3):qJ->w9->Prop
 | next:vh W h .next .next
 | brk:vh W h .brk .brk
 | cont:vh W h .cont .cont
 | ret {v a}:bt W.G h v a->vh W h (.ret v) (.ret a)
inductive nG (W:a0) (c:bq) (env:b0) (d3:ag) (h₀:a3) (Q:sT) (f:qJ) (s':a4):Prop
 | mk (cy:w9) (a7:cq) (aa:ag) (hf:vh W s'.heap f cy) (S:b4 W aa s') (k:bh W (Pv env) d3 h₀ aa s'.heap) (R:dU W c env aa a7 s'.heap) (q:Q cy a7 aa)
noncomputable def rz (W:a0) (r:Nat) (ba:ag->Prop) (k:aJ) (st:aV) (K:dK):sT:=λ cy l H=>gn (λ st l H=>runs W r ba k st l H K) K cy st l H
section
variable (W:a0) (r:Nat) (c:bq)
def lW (a:fT) (f:aJ->aJ):Prop:=∀{env outer A l H s k st ba K},At W r c env A (env::outer) l H s->tl W env outer->runs W r ba (f k) st l H K->
 aR (aX W.prog W.w) A (exec a env) (nG W c env H s.heap (rz W r ba k st K)) (gr W env (env::outer) H s.heap ba) s
def nH (a:List fT) (f:aJ->aJ):Prop:=∀{env outer A l H s k st ba K},At W r c env A (env::outer) l H s->tl W env outer->runs W r ba (f k) st l H K->
 aR (aX W.prog W.w) A (uE a env) (nG W c env H s.heap (rz W r ba k st K)) (gr W env (env::outer) H s.heap ba) s
end
section
variable {W:a0} {r:Nat} {c:bq} {env:b0} {A:c8} {outer:List b0} {l a7:cq} {H aa:ag} {h h':a3} {s s':a4} {E:ag->Prop} {Q rh:sT}
theorem sS.from {b J:a3} {e:ak} (x:sS W J e h) (k:∀a,J.get? a=none->b.get? a=none):sS W b e h:=by
 obtain ⟨c7,vs,d,m,a1,a2,bA,cW,c,f,g,i,j,l⟩:=x;refine ⟨c7,vs,d,m,a1,a2,bA,cW,c,k _ f,k _ g,i,j,l.imp id λ y=> ?_⟩;obtain ⟨T,n,o,cM,p,q,r,s,t,u,v⟩:=y;exact ⟨T,n,o,cM,k _ p,q,r,s,t,u,v⟩
theorem XH (k:bh W (Pv env) d3 h₀ H h) (R:dU W c env H l h) (a:ak) (e:h.get? a=none):h₀.get? a=none:=
 k.3 a (λ p=>(R.gW p).elim λ _ z=>no (e.symm.trans z.1)) e
theorem gr.from (k:bh W (Pv env) H h aa h') (R:dU W c env aa l h') {v:aE} (x:gr W env fr aa h' E v s'):gr W env fr H h E v s':=by
 obtain ⟨e,a,b,a1,a2,bA,cW,d,f,g⟩:=x;exact ⟨e,a,b,a1,k.trans a2,bA,cW.from (XH k R),d,f,g⟩
theorem nG.from {f:qJ} (k:bh W (Pv env) H h aa h') (x:nG W c env aa h' Q f s'):nG W c env H h Q f s':=by
 obtain ⟨cy,a7,a,a1,a2,bA,cW,b⟩:=x;exact ⟨cy,a7,a,a1,a2,k.trans bA,cW,b⟩
theorem nG.imp {f:qJ} (x:nG W c env H h Q f s') (k:∀cy l H,Q cy l H->rh cy l H):nG W c env H h rh f s':=by
 obtain ⟨cy,a7,a,a1,a2,bA,cW,b⟩:=x;exact ⟨cy,a7,a,a1,a2,bA,cW,k _ _ _ b⟩
theorem At.next (X:At W r c env A (env::outer) l H s) (B:tl W env outer) (S:b4 W aa s') (k:bh W (Pv env) H s.heap aa s'.heap) (R:dU W c env aa a7 s'.heap):At W r c env A (env::outer) a7 aa s':=by
 refine ⟨⟨X.1.1,X.1.2,X.1.3,X.1.4,λ e g=> ?_⟩,S,R⟩;have aD:=X.1.5 e g;obtain ⟨L,o,a⟩:=aD.2;have b:=a.1;have h:=a.2.2.1;have i:=a.2.2.2.2
 by_cases d:Pv env L
 ·obtain ⟨m,j,_⟩:=R.6.5;obtain ⟨bw,es,ep,n,p,_⟩:=j;obtain ⟨_,t,_⟩:=R.6.6.2;cases g with
  | head=>exact ⟨aD.1,L,bw,b,a.2.1,dC B.1 b▸n,⟨es,ep,p⟩,dC B.1 b▸t⟩
  | tail _ u=>exact absurd d (B.2 e u L b)
 ·have nm:¬d2 aa s'.heap L:=λ m=>(k.2 L d m).elim i λ q=>no (q.symm.trans h);cases k.1 L o h i d with
  | s q=>exact ⟨aD.1,L,o,b,a.2.1,q,a.2.2.2.1,nm⟩
  | f _ _ cZ q=>exact ⟨aD.1,L,_,b,a.2.1,q,a.2.2.2.1,nm⟩
theorem LR (R:dU W c env H l h):interactive env=false:=by
 unfold interactive;rw [R.2];rfl
theorem vi {t v:cu} (y:A9 W r c t) (x:pT W r c v) (D:∀env,swappedStores [t] v env=pure none):lW W r c (.Assign [t] v pos) λ k=>x.f (y.g k):=by
 intro env outer A l H s k st ba K X B w;have gen:zK v (some t) pos.line env=pure false->aR (aX W.prog W.w) A (exec (.Assign [t] v pos) env) (nG W c env H s.heap (rz W r ba k st K)) (gr W env (env::outer) H s.heap ba) s:=by
  intro f;rw [arm_exec_Assign];refine aG (fA (aG ?_));rw [show swapsWithSole [t] v pos.line env=pure false from f];refine bl ?_;rw [if_neg fS];refine nA X (x.ok X w λ _ v s' z=>z) λ u s1 bg H1 E F G I=> ?_;rw [D];refine aG (bl ?_);unfold assignStores;rw [y.one];refine aG ?_;show aR _ A (oi t env u) _ _ s1;refine cL (y.ok E G I) (λ _ L q=> ?_) λ _ _ x=>x;obtain ⟨a7,aa,j,m,n,a⟩:=q;exact bl ⟨.next,a7,aa,.next,j,F.gI.trans m,n,a⟩
 have sw:=x.3;obtain ⟨g,_,tk,_⟩:=y;cases sw with
 | no h=>exact gen (h _ _ _)
 | @comp o d sc p _ h=>
  cases tk with
  | other b8=>exact gen (b8 _ _ _ _ _ _)
  | @name y C i J=>
   obtain ⟨b,f⟩:∃b,zK (.ListComp o d sc p) (some (.Name y C)) pos.line env=pure b:=⟨_,rfl⟩;cases b with
   | false=>exact gen f
   | true=>
    rw [exec_Assign_Name_used _ _ _ _ f];refine aG (fA (aG ?_));show aR _ A (do let _ <- comprehension (.ListComp o d sc p) sc env (firstIterPos d p) (newList []) (firstAsync d) (firstIter d env) (some (oi (.Name y C) env))) _ _ s
    refine aG (cL (h J X w) (λ _ s' q=> ?_) λ _ _ x=>x);obtain ⟨a7,aa,j,m,n,v,rfl,a⟩:=q;rcases a with ⟨M,e,a⟩ | ⟨_,_,_,_,e,_⟩
    ·exact bl (bl ⟨.next,_,aa,.next,j,m,n,dA e▸a⟩)
    ·exact (by cases e)
theorem XI {v:cu} {x:aW} {i:Nat} {o:cn} (g:Var c x i) (y:de W r c v):lW W r c (.AugAssign (.Name x o) .Add v pos) λ k=> .ae i:: .ints::y.f (.ints:: .bin .Add:: .st (.one i)::k):=by
 intro env outer A l H s k st ba K X B w;rw [arm_exec_AugAssign];refine aG (fA (nA X (AW X g w) λ u s1 bg H1 h p t j=>aG (eb (ij h (y.ok h j.2) λ D m E F n z C d=> ?_))));obtain ⟨a,rfl⟩:=j.1;obtain ⟨⟨b,rfl⟩,d⟩:=d;obtain ⟨G,rfl⟩:=t.inv;obtain ⟨t2,rfl⟩:=C.inv;refine aG (fA (aG (wpAny_operating (iadd_int (aG (fA (aG ?_)))))));cases d with
 | D9 d=>
  refine cL (xw (P:=Pv env) (s:={m with toks:=m.toks+1}) (bg:= .int (a+b)) n.3 (n.2.tok _) g (mE.gW i) (.int _ _)) (λ _ I f=> ?_) λ _ _ x=>x;rcases d with ⟨J,e,q⟩ | ⟨_,_,_,_,e,_⟩
  ·exact bl ⟨.next,_,_,.next,f.1,(p.trans z).gI.trans f.2,f.3,dA e▸q⟩
  ·exact (by cases e)
theorem XK {v:cu} (x:pT W r c v) (b:∀env,zK v none pos.line env=pure false):lW W r c (.Expr v pos) λ k=>x.f (.pop::k):=by
 intro env outer A l H s k st ba K X B w;exact wpAny_Expr_any (ij X (x.ok X w λ _ v s' z=>z) λ u s1 bg H1 a d f e=>⟨.next,l,H1,.next,a.2,d.gI,a.3,e⟩) (LR X.3) (b env)
theorem XM {v:cu} (x:pT W r c v):lW W r c (.Return (some v) pos) λ _=>x.f [.ret]:=by
 intro env outer A l H s k st ba K X B w;exact Te (ij X (x.ok X w λ _ v s' z=>z) λ u s1 bg H1 a b d e=>⟨.ret bg,l,H1,.ret d,a.2,b.gI,a.3,e⟩)
theorem XN:lW W r c (.Return none pos) λ _=>[.aN .none,.ret]:=by
 intro env outer A l H s k st ba K X B w;exact wpAny_Return_none ⟨.ret .none,l,H,.ret .none,X.2,bh.refl ..,X.3,w⟩
theorem XO:lW W r c (.Continue pos) λ _=>[.cont]:=by
 intro env outer A l H s k st ba K X B w;rw [arm_exec_Continue];exact aG (fA (bl ⟨.cont,l,H,.cont,X.2,bh.refl ..,X.3,w⟩))
theorem XQ:lW W r c (.Pass pos) λ k=>k:=by
 intro env outer A l H s k st ba K X B w;rw [arm_exec_Pass];exact aG (fA (bl ⟨.next,l,H,.next,X.2,bh.refl ..,X.3,w⟩))
theorem XR {t:cu} {b o:List fT} {f g:aJ->aJ} (x:de W r c t) (i:nH W r c b f) (j:nH W r c o g):lW W r c (.If t b o pos) λ k=>x.t (f []) (g []) k:=by
 intro env outer A l H s k st ba K X B w;have fin:∀cy l H,rz W r ba [] st (gn (λ st l H=>runs W r ba k st l H K) K) cy l H->rz W r ba k st K cy l H:=λ cy l H q=>by cases cy<;>exact q
 refine wpAny_If (cL (x.tok X w) (λ p s1 z=> ?_) λ _ _ x=>x);obtain ⟨H1,a,d,h⟩:=z;have e:=X.move a d;cases p with
 | true=>exact cL (i e B h) (λ _ _ z=>(z.from d.gI).imp fin) λ _ _ z=>z.from d.gI e.3
 | false=>exact cL (j e B h) (λ _ _ z=>(z.from d.gI).imp fin) λ _ _ z=>z.from d.gI e.3
theorem XS:nH W r c [] λ k=>k:=by
 intro env outer A l H s k st ba K X B w;exact bl ⟨.next,l,H,.next,X.2,bh.refl ..,X.3,w⟩
theorem XT {a:fT} {as:List fT} {f g:aJ->aJ} (J:lW W r c a f) (d:nH W r c as g):nH W r c (a::as) λ k=>f (g k):=by
 intro env outer A l H s k st ba K X B w;refine uF (cL (J X B w) (λ f s1 z=> ?_) λ _ _ x=>x);obtain ⟨cy,a7,aa,e,a1,a2,bA,b⟩:=z
 induction e with
 | next=>exact cL (d (X.next B a1 a2 bA) B b) (λ _ _ z=>z.from a2) λ _ _ z=>z.from a2 bA
 | brk=>exact ⟨.brk,a7,aa,.brk,a1,a2,bA,b⟩
 | cont=>exact ⟨.cont,a7,aa,.cont,a1,a2,bA,b⟩
 | ret h=>exact ⟨.ret _,a7,aa,.ret h,a1,a2,bA,b⟩
end
end
section
section
variable {prog:gi} {w:fp} {A:c8} {R:ps->a4->Prop} {s:a4} {env:b0}
theorem XU {d:cu} {g:List fT}
  (h:aR (aX prog w) A (isTrue d env (eval d env)) (λ b i=>
    if b then aR (aX prog w) A (uE body env) (λ f a=>match f with
      | .next | .cont=>jc (aX prog w) A (.whileLoop d body g env) R a
      | .brk=>R (.ok .next) a
      | .ret v=>R (.ok (.ret v)) a) (Dt (aX prog w) A env λ e s'=>R (.error e) s') i
    else aR (aX prog w) A (uE g env) (λ f a=>R (.ok f) a) (Dt (aX prog w) A env λ e s'=>R (.error e) s') i)
    (Dt (aX prog w) A env λ e s'=>R (.error e) s') s):jc (aX prog w) A (.whileLoop d body g env) R s:=by
 refine SR ?_;show aR _ A ((whileTurn d body g env).onRaise (λ x=>do I5 x env;theTreesLotGoes x)) _ _ s
 refine wpAny_noted ?_;unfold whileTurn;refine aG (cL h (λ b i j=> ?_) λ _ _ h'=>h');cases b with
 | false=>exact aG (cL j (λ f a c=>bl c) λ _ _ h'=>h')
 | true=>
  refine aG (cL j (λ f a c=> ?_) λ _ _ h'=>h');cases f with
  | next=>exact bl ⟨rfl,c⟩
  | cont=>exact bl ⟨rfl,c⟩
  | brk=>exact bl c
  | ret v=>exact bl c
end
section
variable {W:a0} {r:Nat} {c:bq} {env:b0} {A:c8} {outer:List b0} {l a7:cq} {H aa:ag} {h h':a3} {s s':a4} {E:ag->Prop}
theorem LS (X:At W r c env A (env::outer) l H s) (B:tl W env outer) {e:aE} {t:a4} (x:gr W env (env::outer) H s.heap E e t):
  Dt (aX W.prog W.w) A env (λ e s'=>Ds (aX W.prog W.w) A env (gr W env (env::outer) H s.heap E) e s') e t:=
 cL (B.3 env outer A H s.heap E e t X.1.4 X.2.1.2 x) (λ _ t' y=>B.4 env outer A H s.heap E e t' _ X.2.1.2 y λ t' z=>z) λ _ _ z=>z.elim
theorem vj {cy:w9} {a:qJ} {t:a4} {k:aJ} {K:dK} (b:vh W t.heap a cy) (S:b4 W aa t) (d:bh W (Pv env) H h aa t.heap) (R:dU W c env aa a7 t.heap) (q:gn (λ st l H=>runs W r ba k st l H K) K cy st a7 aa):nG W c env H h (rz W r ba k st K) a t:=⟨_,_,_,b,S,d,R,q⟩
def Ff (W:a0) (A:c8) (c:bq) (env:b0) (outer:List b0) (H:ag) (h:a3) (Q:sT) (ba:ag->Prop) (a:ps) (s':a4):Prop:=match a with
 | .ok f=>nG W c env H h Q f s'
 | .error e=>Ds (aX W.prog W.w) A env (gr W env (env::outer) H h ba) e s'
theorem XW {t:cu} {b:List fT} {f:aJ->aJ} {k:aJ} {K:dK} {v:cq->ag->Prop} {i:cq} (x:de W r c t) (q:nH W r c b f) (B:tl W env outer) (j:At W r c env A (env::outer) i H1 s1) (k1:bh W (Pv env) H h H1 s1.heap)
  (s:∀e t,gr W env (env::outer) H h ba e t->Dt (aX W.prog W.w) A env (λ e s'=>Ds (aX W.prog W.w) A env (gr W env (env::outer) H h ba) e s') e t)
  (m:∀a7 aa s',v a7 aa->b4 W aa s'->bh W (Pv env) H h aa s'.heap->dU W c env aa a7 s'.heap->jc (aX W.prog W.w) A (.whileLoop t b [] env) (Ff W A c env outer H h (rz W r ba k st K) ba) s')
  (w:runs W r ba (x.t (f []) [.brk] []) st i H1 (λ cy _ a7 aa=>match cy with
   | .next=>v a7 aa
   | .cont=>v a7 aa
   | .brk=>gn (λ st l H=>runs W r ba k st l H K) K .next st a7 aa
   | .ret u=>gn (λ st l H=>runs W r ba k st l H K) K (.ret u) st a7 aa)):jc (aX W.prog W.w) A (.whileLoop t b [] env) (Ff W A c env outer H h (rz W r ba k st K) ba) s1:=by
 refine XU (cL (x.tok j w) (λ p y z=> ?_) λ _ _ x=>x)
 induction z with
 | mk C n k2 o=>
 have g:=j.move n k2;have a:bh W (Pv env) H h C y.heap:=k1.trans k2.gI;cases p with
 | true=>
  refine cL (q g B o) (λ f F z=> ?_) λ e t z=>s e t (z.from a g.3)
  induction z with
  | mk cy a7 aa D a1 a2 bA d=>
  induction D with
  | next=>exact m _ _ _ d a1 (a.trans a2) bA
  | brk=>exact vj .next a1 (a.trans a2) bA d
  | cont=>exact m _ _ _ d a1 (a.trans a2) bA
  | ret E=>exact vj (.ret E) a1 (a.trans a2) bA d
 | false=>exact bl (vj .next n a g.3 o)
theorem XY {t:cu} {b:List fT} {f:aJ->aJ} (x:de W r c t) (a:nH W r c b f):lW W r c (.While t b [] pos) λ k=> .loop (x.t (f []) [.brk] [])::k:=λ X B w=>
 wpAny_While (w (λ a7 aa=>∀s',b4 W aa s'->bh W _ _ _ aa s'.heap->dU W c _ aa a7 s'.heap->jc (aX W.prog W.w) _ (.whileLoop t b [] _) (Ff W _ c _ _ _ _ _ _) s')
  (λ _ _ d _ e k1 g=>XW x a B (X.next B e k1 g) k1 (λ _ _ z=>LS X B z) (λ _ _ s' p=>p s') d) _ X.2 (bh.refl ..) X.3)
inductive XZ (W:a0) (c:bq) (env:b0) (H:ag) (h:a3) (I:ak) (St:Nat->a3->Prop) (i:Nat) (v:cq->ag->Prop) (t:a4):Prop
 | mk (a7:cq) (aa:ag) (S:b4 W aa t) (k:bh W (Pv env) H h aa t.heap) (R:dU W c env aa a7 t.heap) (st:St i t.heap) (off:hO W I aa t.heap) (v:v a7 aa)
def xI (W:a0) (r:Nat) (ba:ag->Prop) (e1:gJ) (b k:aJ) (st:aV) (K:dK) (ok:ag->Prop) (xs:aV) (l:cq) (H:ag):Prop:=q2 ok (λ x l H a=>∃a7,lM e1 x l=some a7∧runs W r ba b st a7 H λ cy _ a7 aa=>a cy a7 aa) xs l H λ cy a7 aa=>gn (λ st l H=>runs W r ba k st l H K) K cy st a7 aa
inductive LU (W:a0) (c:bq) (env:b0) (H:ag) (h:a3) (I:ak) (St:Nat->a3->Prop) (xs:aV) (v:aV->cq->ag->Prop) (n:Nat) (t:a4):Prop
 | mk (i:Nat) (ah:i<=xs.length) (av:n=xs.length - i) (x:XZ W c env H h I St i (v (xs.drop i)) t)
theorem LV {J b:a3} (g:h.get? I=none) (d:¬Pv env I) (w:ny W I aa J b) (R:dU W c env aa a7 J) (k:bh W (Pv env) H h aa J):dU W c env aa a7 b∧bh W (Pv env) H h aa b:=
 ⟨R.u9 w.2 (λ e=>d (.inl e.symm)) (λ x _ e f=>d (.inr ⟨x,f▸e⟩)) w.4,bh.qW (P':=λ a=>Pv env a∨a=I) ((k.weak λ a p=> .inl p).trans (w.2.weak λ a p=> .inr p)) λ a p=>p.imp id λ (e:a=I)=>e▸g⟩
theorem X0 {t:cu} {b:List fT} {f:aJ->aJ} (b8:rp c t e1) (x:de W r c it) (Y:nH W r c b f):lW W r c (.For t it b [] pos) λ k=>x.f (.each e1 (f [])::k):=by
 intro env outer A l H s k st ba K X B w;refine wpAny_For (ij X (x.ok X w) λ u s1 o H1 q M Z iL=> ?_) λ y=>x.gC.3 _ y;refine Lg q.2 Z iL λ xs ok I St h' rA N=> ?_;have J:s.heap.get? I=none:=M.3 I id N.4;have k2:bh W cT H1 s1.heap H1 h':=bh.grows q.2.1 _ N.5;have O:At W r c env A (env::outer) l H1 {s1 with heap:=h'}:=q.move (q.2.heap (q.2.1.grow N.5) s1.toks) k2;have g:¬Pv env I:=λ p=>(X.3.gW p).elim λ o z=>no (J.symm.trans z.1);refine codeAny_forLoop_any (LU W c env H s.heap I St xs (xI W r ba e1 (f []) k st K ok)) ?_ xs.length ⟨0,dz _,rfl,⟨l,H1,O.2,(M.trans k2).gI,O.3,N.2,N.3,rA⟩⟩;rintro n t ⟨i,iC,rfl,⟨a7,aa,S,k1,Q,R,off,v⟩⟩
 by_cases bK:i<xs.length
 ·have v:xI W r ba e1 (f []) k st K ok (xs[i]::xs.drop (i+1)) a7 aa:=wD bK▸v;refine uG v.2 λ nB T=> ?_;refine N.1.item A i xs[i] aa t _ _ X.1.3 S v.1 off R (c4 bK) λ u F tk L C G oF=>Lz (s:={t with heap:=F,toks:=tk}) G ?_;have D:=LV J g C Q k1;refine cL (EZ (P:=Pv env) (s:={t with heap:=F,toks:=tk}) X.1.3 D.1 (S.heap C.1 tk) b8 (λ j aO=>mE.gW j) L T.1) (λ _ t2 d=> ?_) λ _ _ x=>x;have E:=D.2.trans d.2;refine cL (Y (X.next B d.1 E d.3) B T.2) (λ hF s5 z=> ?_) λ e t z=>LS X B (z.from E d.3)
  induction z with
  | mk cy U V hf a1 a2 bA h=>
  have again:xI W r ba e1 (f []) k st K ok (xs.drop (i+1)) U V->∃m,m<xs.length - i/\ LU W c env H s.heap I St xs (xI W r ba e1 (f []) k st K ok) m s5:=λ h=>
   ⟨xs.length - (i+1),Sx bK (gj i),i+1,bK,rfl,⟨U,V,a1,E.trans a2,bA,N.1.move _ _ _ (N.1.move _ _ _ oF d.4 (G.same d.2 g)) (a2.stays d.1.1 λ a o p e=>(d.3.gW p).elim λ bw z=>dC z.1 e▸z.2) ((G.keep d.2 g).same a2 g),(G.keep d.2 g).keep a2 g,h⟩⟩
  induction hf with
  | next=>exact again h
  | brk=>exact vj .next a1 (E.trans a2) bA h
  | cont=>exact again h
  | ret L=>exact vj (.ret L) a1 (E.trans a2) bA h
 ·obtain rfl:i=xs.length:=dg iC (fD bK);have v:xI W r ba e1 (f []) k st K ok [] a7 aa:=(Tb (l:=xs))▸v;refine N.1.done A aa t _ _ X.1.3 S v.1 off R λ F tk C=> ?_;have D:=LV J g C Q k1;exact bl (vj (t:={t with heap:=F,toks:=tk}) .next (S.heap C.1 tk) D.2 D.1 v.2)
end
def rB (W:a0):Prop:=∀{r:Nat} {c:bq} {f:aW} (fh:cn) {m:cu} (a pos:cn) (x:de W r c m),(f==("GrammarError":aW))=true->c.kind f=some .globalImplicit->lW W r c (.Raise (some (.Call (.Name f fh) [m] [] a)) none pos) λ _=>x.f [.raise]
structure SC (W:a0) (r:Nat) (c:bq) (a:fT) where
 f:aJ->aJ
 ok:lW W r c a f
structure X1 (W:a0) (r:Nat) (c:bq) (a:List fT) where
 f:aJ->aJ
 ok:nH W r c a f
section
variable {W:a0} (K:dR W) (kA:rB W) (r:Nat) (c:bq)
noncomputable def X2 (t v:cu) (pos:cn):Option (SC W r c (.Assign [t] v pos)):=
 (vg K r c t).bind λ y=>(Fd K r c v).bind λ x=>(lU (m:=λ t=>A9 W r c t->Option (SC W r c (.Assign [t] v pos))) t (λ _ _=>none) (nm:=λ _ _ y=>some ⟨_,vi y x λ _=>rfl⟩) (ab:=λ _ _ _ y=>some ⟨_,vi y x λ _=>rfl⟩) (sb:=λ _ _ _ y=>some ⟨_,vi y x λ _=>rfl⟩)
  (tp:=λ es k p y=>(lU (m:=λ v=>pT W r c v->Option (SC W r c (.Assign [.Tuple es k p] v pos))) v (λ _ _=>none) (nm:=λ _ _ x=>some ⟨_,vi y x λ _=>rfl⟩) (sb:=λ _ _ _ x=>some ⟨_,vi y x λ _=>rfl⟩) (cl:=λ _ _ _ _ x=>some ⟨_,vi y x λ _=>rfl⟩)) x)) y
noncomputable def X3 (v:cu) (pos:cn):Option (SC W r c (.Expr v pos)):=(Fd K r c v).bind λ x=>(lU (m:=λ v=>pT W r c v->Option (SC W r c (.Expr v pos))) v (λ _ _=>none) (cl:=λ _ _ _ _ x=>some ⟨_,XK x λ _=>rfl⟩)) x
noncomputable def X4 (x y:Option cu) (pos:cn):Option (SC W r c (.Raise x y pos)):=match x,y with
 | some e,none=>lU (m:=λ e=>Option (SC W r c (.Raise (some e) none pos))) e (λ _=>none) (cl:=λ f es ks a=>match es,ks with
  | [m],[]=>lU (m:=λ f=>Option (SC W r c (.Raise (some (.Call f [m] [] a)) none pos))) f (λ _=>none) (nm:=λ f fh=>(gs K r c m).bind λ x=>if h:(f==("GrammarError":aW))=true/\ c.kind f=some .globalImplicit then some ⟨_,kA fh a pos x h.1 h.2⟩ else none)
  | _,_=>none)
 | _,_=>none
mutual
noncomputable def oI:(a:fT)->Option (SC W r c a)
 | .Assign [t] v pos=>X2 K r c t v pos
 | .AugAssign t .Add v pos=>lU (m:=λ t=>Option (SC W r c (.AugAssign t .Add v pos))) t (λ _=>none) (nm:=λ _ _=>(u7 c _).bind λ i=>(gs K r c v).map λ y=>⟨_,XI i.2 y⟩)
 | .Expr v pos=>X3 K r c v pos
 | .Return none _=>some ⟨_,XN⟩
 | .Return (some e) _=>(Fd K r c e).map λ x=>⟨_,XM x⟩
 | .If t b o _=>(gs K r c t).bind λ x=>(rC b).bind λ y=>(rC o).map λ z=>⟨_,XR x y.ok z.ok⟩
 | .While t b [] _=>(gs K r c t).bind λ x=>(rC b).map λ y=>⟨_,XY x y.ok⟩
 | .For t it b [] _=>(Lj c t).bind λ e1=>(gs K r c it).bind λ x=>(rC b).map λ y=>⟨_,X0 e1.2 x y.ok⟩
 | .Continue _=>some ⟨_,XO⟩
 | .Pass _=>some ⟨_,XQ⟩
 | .Raise x y pos=>X4 K kA r c x y pos
 | _=>none
noncomputable def rC:(a:List fT)->Option (X1 W r c a)
 | []=>some ⟨_,XS⟩
 | a::as=>(oI a).bind λ x=>(rC as).map λ y=>⟨_,XT x.ok y.ok⟩
end
end
end
section
inductive Rec (W:a0) (h:a3) (b:ak):Prop
 | mk (z:W.h0.get? b=none) (o:dq) (vs:Array aE) (e:h.get? b=some o) (d:o.data= .fields vs) (c:o.cls≠ .type "range")
def Bc (fr:List b0) (b:ak):Prop:=∃env∈fr,env.frame=some b
inductive mJ (W:a0) (H:ag) (h:a3) (b:ak):Prop
 | mk (z:W.h0.get? b=none) (nm:¬d2 H h b) (n:H b=none) (o:dq) (e:h.get? b=some o) (es:Array lH) (k:Nat) (d:o.data= .dict es k)
noncomputable abbrev Rest (fr:List b0) (X:ak->Prop) (h h':a3):Prop:=A2 (∀b o,¬X b->¬Bc fr b->h.get? b=some o->h'.get? b=some o) (∀b o,¬X b->h.get? b=some o->∃cZ,h'.get? b=some {o with slots:=cZ})
noncomputable abbrev After (W:a0) (fr:List b0) (X:ak->Prop) (H:ag) (h h':a3):Prop:=gR (bW W H h') (bh W X H h H h') (j1 W fr H h')
section
variable {W:a0} {env:b0} {A:c8} {fr outer:List b0} {H aa:ag} {h h':a3} {s:a4} {E:ag->Prop} {X:ak->Prop}
theorem gH.X5 {a:ak} (c:gH W H h a bT) {o:dq} (e:h.get? a=some o) (vs:Array aE):o.data≠ .fields vs:=by
 cases bT with
 | list xs=>obtain ⟨i,n,b,_⟩:=c;exact dC b e▸e4
 | gG xs=>obtain ⟨i,⟨bw,b,_,n,f⟩,_⟩:=c;exact λ d=>e4 (f.symm.trans (dC e b▸d))
 | dict sh es=>obtain ⟨i,n,b,_⟩:=c;exact dC b e▸e4
 | inst C fs=>obtain ⟨dd,⟨dT,g,m,a1,_,_,cW,_⟩,_⟩:=c;exact dC a1 e▸cW.2 vs
 | kX n=>obtain ⟨es,ep,t,b,_⟩:=c;exact dC b e▸e4
theorem Rec.aD (x:Rec W h b):W.h0.get? b=none:=by obtain ⟨z,_⟩:=x;exact z
theorem mJ.aD (x:mJ W H h b):W.h0.get? b=none:=by obtain ⟨z,_⟩:=x;exact z
theorem mJ.pQ (x:mJ W H h b):H b=none:=by obtain ⟨_,_,z,_⟩:=x;exact z
theorem mJ.m0 (x:mJ W H h b):¬d2 H h b:=by obtain ⟨_,z,_⟩:=x;exact z
theorem Rec.none (x:Rec W h b) (S:bW W H h):H b=none:=
 kO.mpr λ bT q=>by obtain ⟨_,o,vs,e,d,_⟩:=x;exact (S.1 _ _ q).X5 e vs d
theorem Rec.nm (x:Rec W h b) (S:bW W H h):¬d2 H h b:=λ m=>by
 cases m with
 | o bT q _=>exact no ((x.none S).symm.trans q)
 | d y q=>
  obtain ⟨C,fs,e,⟨_,g,_,_,_,_,_,_,a,⟨_,_,c⟩,_⟩,n,z⟩:=S.own q;obtain ⟨_,o,vs,f,d,_⟩:=x;exact e4 (c.symm.trans (dC a f▸d))
theorem Rec.mD (x:Rec W h b):∀o,h.get? b=some o->¬Still o:=λ o e s=>by
 obtain ⟨_,bw,vs,a,d,c⟩:=x;obtain rfl:=dC e a;exact s.elim (λ z=>z.2.elim λ _ _ z=>e4 (d.symm.trans z)) λ z=>c z.1
theorem j1.at (d:j1 W fr H h) (S:bW W H h) {b:ak} (e:Bc fr b):mJ W H h b:=by
 obtain ⟨env,f,g⟩:=e;obtain ⟨_,L,o,a2,bA,cW,⟨es,n,a⟩,c⟩:=d env f;obtain rfl:b=L:=dC g a2;refine ⟨bA,c,kO.mpr λ bT q=> ?_,o,cW,es,n,a⟩;cases bT with
 | gG xs=>obtain ⟨i,⟨bw,j,_,k,l⟩,_⟩:=S.1 _ _ q;exact e4 (a.symm.trans (dC j cW▸l))
 | _=>exact c (.o _ q trivial)
theorem mJ.mD (x:mJ W H h b):∀o,h.get? b=some o->¬Still o:=λ o e s=>by
 obtain ⟨_,_,_,bw,a,es,n,d⟩:=x;exact s.uR (dC a e▸d)
theorem Rest.after (x:Rest fr X h h') (S:bW W H h) (c:j1 W fr H h) (g:∀b,X b->Rec W h b):After W fr X H h h':=by
 have st:eB W cT (λ b=>X b∨Bc fr b) H h H h':= .off (λ b o d=>d.elim (λ q=>(g b q).mD o) λ q=>(c.at S q).mD o) (λ b d=>d.elim (λ q=>(g b q).aD) λ q=>(c.at S q).aD)
  (λ b d=>d.elim (λ q=>(g b q).nm S) λ q=>(c.at S q).m0) (λ b d=>d.elim (λ q=>(g b q).none S) λ q=>(c.at S q).pQ) λ b o n=>x.1 b o (λ q=>n (.inl q)) λ q=>n (.inr q)
 have k:bh W X H h H h':=by
  refine ⟨λ a o e nm i=> ?_,λ a _ m=> .inl (by cases m with
   | o o e m=>exact .o o e m
   | d y q=>exact .d y (st.own S id q)),λ a i e=>kO.mpr λ o q=>(x.2 a o i q).elim λ _ z=>no (e.symm.trans z),λ _ _ e=>e⟩
  by_cases f:Bc fr a
  ·obtain ⟨cM,_,_,bw,j,es,n,d⟩:=c.at S f;exact (x.2 a o i e).elim λ cZ q=> .f ⟨es,n,dC j e▸d⟩ cM cZ q
  ·exact .s (x.1 a o i f e)
 refine ⟨st.sim S,k,c.keep k λ env l L p q=> ?_⟩;obtain ⟨_,o,vs,e,d,_⟩:=g L q;obtain ⟨_,_,_,bw,j,es,n,r⟩:=c.at S ⟨env,l,p⟩;exact e4 (d.symm.trans (dC j e▸r))
theorem Rest.err {e:ak} {t:a4} (r:Rest fr X t.heap h') (x:gr W env fr d3 h₀ E (.ref e) t) (tk:Nat) (c:∀b,X b->h₀.get? b=none∧Rec W t.heap b) (f:sS W h₀ e h') (g:∀b,X b->∃o,h'.get? b=some o):gr W env fr d3 h₀ E (.ref e) {t with heap:=h',toks:=tk}:=by
 obtain ⟨h,aa,i,S,k,j,_,l,gW,ns⟩:=x;obtain rfl:e=h:=wM i;have a:=r.after S.1 j λ b q=>(c b q).2;refine ⟨e,aa,rfl,S.heap a.1 tk,bh.qW (P':=λ a=>Pv env a∨X a) ((k.weak λ a p=> .inl p).trans (a.2.weak λ a p=> .inr p)) (λ a p=>p.imp id λ p=>(c a p).1),a.3,f,l,λ b p=> ?_,?_⟩
 ·by_cases q:X b
  ·exact g b q
  ·exact (gW b p).elim λ o z=>(r.2 b o q z).elim λ _ z=>⟨_,z⟩
 ·obtain ⟨m,o,es,ep,q,d,n⟩:=ns;refine (r.2 _ o (λ w=> ?_) q).elim λ cZ s=>⟨m,_,es,ep,s,d,n⟩;obtain ⟨_,bw,vs,u,v,_⟩:=(c _ w).2;exact e4 (d.symm.trans (dC u q▸v))
theorem j1.fun:j1 W fr H h->h.FunFrames W.h0 fr:=by
 induction fr with
 | nil=>exact λ _=>trivial
 | cons env rest ih=>
  intro x;obtain ⟨a1,L,o,a2,bA,cW,⟨es,n,a⟩,_⟩:=x env (.head _);exact ⟨a1▸(by decide:ScopeKind.function≠ScopeKind.module),⟨L,o,a2,bA,cW,λ vs q=>e4 (a.symm.trans q)⟩,ih λ e b=>x e (.tail _ b)⟩
theorem X6 (o:dq) (f:Array aE->Array aE):(o.mapFields f).dict=o.dict:=by
 obtain ⟨c,d,a,cZ⟩:=o;cases a<;>rfl
noncomputable abbrev X7 (fr:List b0) (e T:ak) (c7:dq) (h h':a3):Prop:=gR (Rest fr (· =e) h h') (h'.get? e=some (c7.mapFields (·.setIfInBounds 1 (.ref T)))) (dB λ a b=>h'.get? T=some a∧a.data= .fields b∧a.cls= .type "traceback"∧3<b.size)
theorem X8 {L e:ak} {vs:Array aE} {k:aE} {p:Bool} {Q:Unit->a4->Prop} {ba:cA}
  (r:A.frames=some (env::outer)) (t:j1 W (env::outer) H s.heap) (u:env.frame=some L) (f:s.heap.get? e=some c7) (hd:c7.data= .fields vs) (v:1<vs.size)
  (h:∀h',X7 (env::outer) e s.heap.objs.size c7 s.heap h'->Q () {s with heap:=h'}):
  aR (aX W.prog W.w) A (do let a <- frameOf env;let gC <- entryPlaceOf L p;let b <- Tf k a .none (qH L) .none gC;setField (.ref e) 1 b) Q ba s:=by
 have l:=t.fun;refine aG (wpAny_frameOf_fun r l u λ h₁ w=>aG (wpAny_entryPlaceOf λ gC x=> ?_));unfold Tf newFields;refine aG (ahQ ?_ (x.sizeOk5 _ _ _ _ _));obtain ⟨hz,m,y⟩:=w;rw [hz];obtain ⟨c,d⟩:∃c,c=({cls:= .type "traceback",dict:=none,data:= .fields ([k,.ref L,.none,qH L,.none]++(if gC.isEmpty then eQ 6 mh else gC)).toArray}:dq):=⟨_,rfl⟩
 rw [<- d];have n:=dP c ((m e (λ g=>(l.mem g).elim λ _ z=>z.elim λ o z=>z.2 vs (dC f z.1▸hd):e∉(env::outer).filterMap (·.frame))).trans f:h₁.get? e=some c7);refine Tg n hd v ?_;have keep:∀b o,b≠e->h₁.get? b=some o->((h₁.push c).update e (zO (·.setIfInBounds 1 (kQ s.heap.objs.size)))).get? b=some o:=λ b o B C=>(wB _ _ (hy B)).trans (dP _ C);refine h _ ⟨⟨λ b o i D j=>keep b o i ((m b λ g=>D ?_).trans j),λ b o i j=>(y b o j).elim λ cZ q=>⟨cZ,keep b _ i q⟩⟩,sy _ n (ahW (Du hd _)),c,_,(wB _ _ (hy (m7 (iu f):s.heap.objs.size≠e))).trans (hz▸hc h₁ (congrArg Obj.isFreed d)),congrArg Th d,congrArg Obj.cls d,?_⟩
 ·exact (Dl.mp g).elim λ E z=>⟨E,z.1,z.2⟩
 ·rw [wA,cI];exact bx (by decide:3<5) (fJ 5 _)
theorem Ns1.slots (x:h.Ns1 d m) (k:∀o,h.get? d=some o->∃cZ,h'.get? d=some {o with slots:=cZ}):h'.Ns1 d m:=by
 obtain ⟨o,es,ep,e,r⟩:=x;obtain ⟨cZ,q⟩:=k o e;exact ⟨_,es,ep,q,r⟩
theorem LY (a:∀b o,W.h0.get? b=some o->h.get? b=some o) (e:h.get? b=none):W.h0.get? b=none:=kO.mpr λ _ q=>no (e.symm.trans (a _ _ q))
theorem Yd:wG "traceback"≠ .type "range":=λ q=>absurd (Value.type.inj q) (by decide)
theorem xP {vs:Array aE} (h:1<vs.size) (v:aE):(vs.setIfInBounds 1 v)[1]? =some v∧1<(vs.setIfInBounds 1 v).size:=by
 rw [Array.getElem?_setIfInBounds_self_of_lt h,ahX];exact ⟨rfl,h⟩
theorem LZ {e:ak} {t:a4} (s:∀b o,W.h0.get? b=some o->h₀.get? b=some o) (x:gr W env fr d3 h₀ E (.ref e) t) {vs:Array aE} {T:ak} (g1:t.heap.get? e=some c7) (u:c7.cls=W.G .jE) (y:c7.dict=some d) (z:c7.data= .fields vs) (A:1<vs.size) (B:h₀.get? e=none) (C:h₀.get? d=none) (D:t.heap.Ns1 d m) (F:m bp.at_.str=some .none∧m "told"=none)
  {f:dq} {g:Array aE} (G:vs[1]? =some (.ref T)) (j:h₀.get? T=none) (l:T≠e) (n:T≠d) (p:t.heap.get? T=some f) (k:f.data= .fields g) (q:f.cls= .type "traceback") (H:3<g.size) (v:aE):gr W env fr d3 h₀ E (.ref e) {t with heap:=t.heap.update T (zO (·.setIfInBounds 3 v))}∧(t.heap.update T (zO (·.setIfInBounds 3 v))).get? e=some c7:=by
 have h:∀b,b≠T->(t.heap.update T (zO (·.setIfInBounds 3 v))).get? b=t.heap.get? b:=λ b c=>wB _ _ (hy c);have r:=sy (zO (·.setIfInBounds 3 v)) p (ahW (Du k _));have ge:=(h _ (hy l)).trans g1;refine ⟨Rest.err (X:=(· =T)) ⟨λ b o c _ w=>(h b c).trans w,λ b o c w=>⟨o.slots,(h b c).trans w⟩⟩ x t.toks (λ b w=>w▸⟨j,LY s j,f,g,p,k,q▸Yd⟩) ?_ λ b w=>⟨_,(congrArg (t.heap.update T (zO (·.setIfInBounds 3 v))).get? w).trans r⟩,ge⟩;exact ⟨c7,vs,d,m,ge,u,y,z,A,B,C,Ns1.slots D λ o w=>⟨o.slots,(h _ (hy n)).trans w⟩,F,.inr ⟨T,_,_,G,j,l,n,r,Du k _,(ahY _ _).trans q,(ahX (xs:=g) (i:=3) (a:=v)).symm▸H⟩⟩
theorem L1 (p:∃c,W.G .jE= .ref c) {e:ak} {t:a4} (r:A.frames=some (env::outer)) (s:∀b o,W.h0.get? b=some o->h₀.get? b=some o) (x:gr W env (env::outer) d3 h₀ E (.ref e) t) {L:ak} (u:env.frame=some L) (v:aE) (y:Bool):
  aR (aX W.prog W.w) A (do let a <- frameOf env;let gC <- entryPlaceOf L y;let b <- Tf v a .none (qH L) .none gC;setField (.ref e) 1 b) (λ _ t'=>pU W env (env::outer) d3 h₀ E (.ref e) t') (λ _ _=>False) t:=by
 have B:=x;obtain ⟨C,aa,D,S,k,F,⟨c7,vs,d,m,g1,n,G,f,g,i,I,j,J,V⟩,X,gW,ns⟩:=x;obtain rfl:e=C:=wM D;have K:d≠e:=λ q=>by
  obtain ⟨bw,es,ep,l,M,_⟩:=j;exact e4 (f.symm.trans (dC (q▸l) g1▸M))
 refine X8 (H:=aa) r F u g1 f g λ h' w=> ?_;obtain ⟨R,ge,N,O,P,Q,vg,T⟩:=w;have h:t.heap.get? t.heap.objs.size=none:=gA _;have U:t.heap.objs.size≠d:=λ q=>by obtain ⟨bw,_,_,l,_⟩:=j;exact no (h.symm.trans (q▸l))
 exact ⟨R.err B t.toks (λ b q=>q▸⟨i,LY s i,c7,vs,g1,f,(λ q=>p.elim λ c z=>Dv (z.symm.trans (n.symm.trans q)):c7.cls≠ .type "range")⟩) (⟨_,_,d,m,ge,(ahY _ _).trans n,(X6 _ _).trans G,Du f _,(xP g _).2,i,I,Ns1.slots j λ o q=>R.2 d o K q,J,.inr ⟨t.heap.objs.size,N,O,(xP g _).1,(k.3 _ (λ w=>(gW _ w).elim λ bw z=>no (h.symm.trans z)) h:h₀.get? t.heap.objs.size=none),λ q=>no (h.symm.trans (q▸g1)),U,P,Q,vg,T⟩⟩:sS W h₀ e h') λ b q=>⟨_,(congrArg h'.get? q).trans ge⟩,e,_,_,t.heap.objs.size,rfl,ge,Du f _,(xP g _).1⟩
theorem L2 (T:ak):(kQ T !=mh)=true:=bne_iff_ne.mpr λ q=>Dv q
theorem Fh (n:∃c,W.G .jE= .ref c):LP W:=by
 intro env outer A d3 h₀ E e t o b x;have f:=x;obtain ⟨r,aa,rfl,S,k,s,⟨c7,vs,d,m,g1,u,v,a,w,y,z,B,C,D⟩,K,gW,ns⟩:=x;obtain ⟨_,L,M,g,_⟩:=s env (.head _);unfold I5;rw [g];rcases D with q | ⟨T,N,F,h,G,H,I,i,j,J,l⟩
 ·refine aG (Dw g1 a q ?_);rw [if_neg (by decide)]
  exact L1 n o b f g _ _
 ·refine aG (Dw g1 a h ?_);rw [if_pos (L2 T)];refine aG (Dw i j (uj l) ?_)
  by_cases p:(F[3]==qH L)=true
  ·rw [if_pos p];exact bl ⟨f,r,c7,vs,T,rfl,g1,a,h⟩
  ·rw [if_neg p];exact aG (Tg i j l (L1 n o b (LZ b f g1 u v a w y z B C h G H I i j J l _).1 g _ _))
theorem Bf (U:∃c,W.G .jE= .ref c) {e:aE} {t:a4} {hX:Option ak} {Q:Unit->a4->Prop} {ba:cA} (s:∀b o,W.h0.get? b=some o->h₀.get? b=some o)
  (x:pU W env fr d3 h₀ E e t) (q:∀t',pU W env fr d3 h₀ E e t'->Q () t'):aR (aX W.prog W.w) A (setFlight e hX) Q ba t:=by
 obtain ⟨x,h,i,j,g,rfl,u,y,a⟩:=x;have B:=x;obtain ⟨C,aa,D,S,k,V,⟨c7,vs,d,m,g1,F,G,f,H,I,J,K,L,M⟩,X,gW,ns⟩:=x;obtain rfl:h=C:=wM D;obtain rfl:i=c7:=dC u g1;obtain rfl:j=vs:=Data.fields.inj (y.symm.trans f);rcases M with w | ⟨T,Y,Z,l,N,O,P,n,p,R,r⟩
 ·exact Dv (dA (a.symm.trans w))
 ·obtain rfl:g=T:=wM (dA (a.symm.trans l));unfold setFlight;refine aG (Dw g1 f a ?_);rw [if_pos (L2 g)];have z:=λ v=>LZ s B g1 F G f H I J K L l N O P n p R r v;exact Tg n p r (q _ ⟨(z _).1,h,i,j,g,rfl,(z _).2,f,a⟩)
theorem pU.s' {e:aE} {t:a4} (x:pU W env fr d3 h₀ E e t):gr W env fr d3 h₀ E e t:=by obtain ⟨x,_⟩:=x;exact x
theorem Yi (a:∃c,W.G .jE= .ref c):LQ W:=by
 intro env outer A d3 h₀ E e t ba b x q;have d:=x;obtain ⟨_,j,k,l,f,rfl,g,h,i⟩:=x;unfold Ds;refine aG (Dw g h i ?_);dsimp only;rw [if_neg (show ¬((kQ f==mh)=true) from λ q=>Dv (ed q))];exact Bf a b d λ t' y=>q t' y.s'
theorem Yj (a:∃c,W.G .jE= .ref c) {e:aE} {t:a4} {Q:Unit->a4->Prop} {ba:cA} (f:A.frames=some (env::outer)) (d:∀b o,W.h0.get? b=some o->h₀.get? b=some o)
  (x:gr W env (env::outer) d3 h₀ E e t) (q:∀t',gr W env (env::outer) d3 h₀ E e t'->Q () t'):
  aR (aX W.prog W.w) A (leaving env e) Q ba t:=by
 unfold leaving;exact aG (cL (Fh a env outer A d3 h₀ E e t f d x) (λ _ t' y=>Bf a d y λ t' y=>q t' y.s') λ _ _ z=>z.elim)
end
end
section
theorem Yk {x:aW}:∀{bu:bZ} {vs:cH},x∉bu->(bu.zip vs).lookup x=none:=by
 intro bu
 induction bu with
 | nil=>exact λ _=>rfl
 | cons p bu ih=>
  intro vs h;cases vs with
  | nil=>rfl
  | cons v vs=>
   rw [Ti,uD,show (x==p)=false from beq_eq_false_iff_ne.mpr λ e=>h (e▸.head _)];exact ih λ q=>h (.tail _ q)
theorem L4 {B:List (aW×aE)->(aW->Option aE)->aW->Option aE} {C:aW->Prop} (h0:∀m,B [] m=m) (J:∀n v r m,C n->B ((n,v)::r) m=B r λ y=>if y=n then some v else m y) (b:∀n v r m,¬C n->B ((n,v)::r) m=B r m) {x:aW} (d:C x):
  ∀(bu:bZ) (vs:cH) (m:aW->Option aE),bu.Nodup->B (bu.zip vs) m x=((bu.zip vs).lookup x).or (m x):=by
 intro bu
 induction bu with
 | nil=>exact λ _ m _=>congrFun (h0 m) x
 | cons p bu ih=>
  intro vs;cases vs with
  | nil=>exact λ m _=>congrFun (h0 m) x
  | cons v vs=> ?_
  intro m a;have a:=kP.mp a;have go:=λ m=>ih vs m a.2;rw [Ti,uD]
  by_cases e:x=p
  ·rw [J _ _ _ _ (e▸d),go,Yk (e▸a.1),show (x==p)=true from beq_iff_eq.mpr e];exact if_pos e
  ·rw [show (x==p)=false from beq_eq_false_iff_ne.mpr e]
   by_cases c:C p
   ·rw [J _ _ _ _ c,go];exact congrArg _ (if_neg e)
   ·rw [b _ _ _ _ c,go]
theorem Yl {k:aW->Option qI} {x:aW} (a:k x=some .local) (bu:bZ) (vs:cH) (m:aW->Option aE):bu.Nodup->zP k (bu.zip vs) m x=((bu.zip vs).lookup x).or (m x):=L4 (C:=λ x=>k x=some .local) (λ _=>rfl) (λ n v r m h=>congrArg (zP k r) (if_pos h)) (λ n v r m h=>congrArg (zP k r) (if_neg h)) a bu vs m
theorem Ym {k:aW->Option qI} {x:aW} (a:k x≠some .local) (bu:bZ) (vs:cH) (m:aW->Option aE):bu.Nodup->zQ k (bu.zip vs) m x=((bu.zip vs).lookup x).or (m x):=L4 (C:=λ x=>¬k x=some .local) (λ _=>rfl) (λ n v r m h=>congrArg (zQ k r) (if_neg h)) (λ n v r m h=>congrArg (zQ k r) (if_pos (Tj.mp h))) a bu vs m
theorem L5 (r:dQ G h vs as) {x:aW}:∀{bu:bZ},(bu.zip as).lookup x=some bg->∃v,(bu.zip vs).lookup x=some v∧bt G h v bg:=by
 induction r with
 | nil=>intro bu e;cases bu<;>exact no e
 | cons a _ ih=>
  intro bu e;cases bu with
  | nil=>exact no e
  | cons p bu=>
   rw [Ti,uD] at e ⊢;revert e;cases x==p with
   | true=>exact λ e=>⟨_,rfl,dA e▸a⟩
   | false=>exact ih
theorem Fm {x:aW}:∀(names:List (aW×qI)) (n:Nat) (a:List (aW×ak)),((x,Dx)∈names∨(a.lookup x).isSome)->((zR n names a).lookup x).isSome:=by
 intro names
 induction names with
 | nil=>exact λ _ _ h=>h.elim hQ id
 | cons p r ih=>
  obtain ⟨y,k⟩:=p;intro n a h;unfold zR;cases ao:k==Dx with
  | true=>
   refine ih _ _ ?_;rw [uD];cases e:x==y with
   | true=>exact .inr rfl
   | false=>exact h.imp (λ h=>(dZ.mp h).resolve_left λ q=>ne_of_beq_false e (congrArg m8 q)) id
  | false=>exact ih _ _ (h.imp (λ h=>(dZ.mp h).resolve_left λ q=>ne_of_beq_false ao (congrArg pz q).symm) id)
theorem Yn {x:aW} {a:ak}:∀(names:List (aW×qI)) (n:Nat) (b:List (aW×ak)),(x,a)∈zR n names b->(x,Dx)∈names∨(x,a)∈b:=by
 intro names
 induction names with
 | nil=>exact λ _ _ h=> .inr h
 | cons p r ih=>
  obtain ⟨y,k⟩:=p;intro n b h;unfold zR at h;cases ao:k==Dx with
  | true=>
   rw [ao] at h;rcases ih _ _ h with q | q
   ·exact .inl (.tail _ q)
   ·exact (dZ.mp q).imp (λ q=>by cases q;exact beq_iff_eq.mp ao▸.head _) id
  | false=>
   rw [ao] at h;exact (ih _ _ h).imp (.tail _) id
noncomputable abbrev rE (W:a0) (a:ak) (fd:lI) (body:List fT) (bu:bZ) (n:Nat) (e2:cH):Prop:=eT (∃o,W.h0.get? a=some o∧o.data= .func fd) (fd.body= .stmts body) (fd.closure=[]) (fd.globals=W.gl) (fd.builtins=zv) (eT (W.h0.CodeRec fd.code fd.qualname) (fd.scope.kind= .function) (fd.scope.isCoroutine=false) (fd.scope.isGenerator=false) ((bq.of fd.scope).names.Nodup) (eT (∀x∈(bq.of fd.scope).names,fd.scope.names.lookup x=some .local∨fd.scope.names.lookup x=some .cell) (∀p∈fd.scope.names,p.2= .cell->p.1∈(bq.of fd.scope).names∧fd.scope.names.lookup p.1=some .cell) (bu.Nodup) (∀p∈bu,fd.scope.names.lookup p=some .local∨fd.scope.names.lookup p=some .cell) (n+e2.length=bu.length) (∀vs:cH,vs.length=n->∀S,peek W.K S (bindArgs fd ⟨vs,[]⟩)=some (bu.zip (vs++e2)))))
noncomputable def oM (names bu:bZ) (as:aV):cq:=names.map λ x=>(bu.zip as).lookup x
section
variable {W:a0} {r:Nat} {A:c8} {fr:List b0} {H:ag} {s:a4} {E:ag->Prop}
theorem L6 {names:bZ} {i:Nat} {x:aW} (a:names[i]? =some x) (h:(oM names bu as)[i]? =some (some bg)):(bu.zip as).lookup x=some bg:=by
 unfold oM at h;rw [ff,a] at h;exact dA h
theorem xQ (a:h.objs.size<=b):h.get? b=none:=kO.mpr λ _ e=>Nat.not_lt.mpr a (iu e)
theorem L7 (S:bW W H h) (c:∀b o,h.get? b=some o->h'.get? b=some o) (a:h.objs.size<=b) {o:dq} (d:h'.get? b=some o) (e:∀f n,o.data≠ .seq f n) (g:∀vs,o.data≠ .fields vs):Own W H h' b:=
 ⟨S.oo (xQ a),λ m=>(S.qU (d2.grow S c m)).elim λ bT z=>no ((xQ a).symm.trans z.1),o,d,e,g⟩
theorem L8 {a:ak} (F:rE W a fd body bu n e2) (S:bW W H s.heap) (m:dQ W.G s.heap (vs++e2) (as++kB)) {b6:a4}
  (I:InCallC s (gQ fd s.heap.objs.size a).locals (zP (gQ fd s.heap.objs.size a).kindOf (bu.zip (vs++e2)) λ _=>none) (gQ fd s.heap.objs.size a).cells (zQ (gQ fd s.heap.objs.size a).kindOf (bu.zip (vs++e2)) λ _=>none) b6):
  dU W (bq.of fd.scope) (gQ fd s.heap.objs.size a) H (oM (bq.of fd.scope).names bu (as++kB)) b6.heap:=by
 have d:=I.toInCall.keep;have j:=m.stays (.of_keep d);have l:∀{o:Option aE} {v},o=some v->o.or none=some v:=λ e=>ahZ.trans e;refine ⟨rfl,F.6.2,F.4,F.5,cz ..,F.6.5,F.6.6.1,λ x y b J p=>name_of_addr I.apart (mem_of_lookup J) (mem_of_lookup p),λ x b e=>F.6.6.2 _ ((λ x b e=>(Yn _ _ _ (mem_of_lookup e)).elim id λ q=>(by cases q):∀x b,(gQ fd s.heap.objs.size a).cells.lookup x=some b->(x,Dx)∈fd.scope.names) x b e) rfl,⟨_,I.toInCall.ns,λ i x bg f ao g=> ?_⟩,λ i x f ao=> ?_,?_⟩
 ·exact (L5 j (L6 f g)).elim λ v z=>⟨v,(Yl ao bu _ _ F.6.6.3).trans (l z.1),z.2⟩
 ·obtain ⟨b,e⟩:=hh.mp (Fm fd.scope.names (s.heap.objs.size+1) [] (.inl (mem_of_lookup ao)));have aI:=I.cell x b e;obtain ⟨o,h,c⟩:=id aI;refine ⟨b,_,e,aI,L7 S d (bF (a9 I.toInCall.fresh (I.above x b (mem_of_lookup e)))) h (λ r k q=>e4 (c.symm.trans q)) λ w q=>e4 (c.symm.trans q),λ bg g=> ?_⟩;exact (L5 j (L6 f g)).elim λ v z=>⟨v,(Ym (λ q=>wJ (dA (ao.symm.trans q))) bu _ _ F.6.6.3).trans (l z.1),z.2⟩
 ·obtain ⟨o,es,ep,h,c,_⟩:=I.toInCall.ns;exact L7 S d I.toInCall.fresh h (λ r k q=>e4 (c.symm.trans q)) λ w q=>e4 (c.symm.trans q)
noncomputable def jH (Q:KE):dK:=λ cy _ _ aa=>match cy with
 | .ret v=>Q v aa
 | .next=>Q .none aa
 | _=>False
def Bg (W:a0) (r:Nat) (f:aE) (as:aV) (H:ag) (Q:KE) (E:ag->Prop):Prop:=
 ∀(A:c8) (fr:List b0) (s:a4) (vs:cH),ow W r A fr H s.heap->b4 W H s->dQ W.G s.heap vs as->
  jc (aX W.prog W.w) A (.call f ⟨vs,[]⟩) (λ a s'=>match a with
   | .ok (.ret v)=>dW W H s.heap Q v s'
   | .ok _=>False
   | .error e=>nh W cT H s.heap fr E e s') s
noncomputable abbrev Entry (W:a0) (r:Nat) (a:ak) (fd:lI) (bu:bZ) (dm:aV) (A:c8) (fr:List b0) (H:ag) (s b6:a4):Prop:=iV (At W r (bq.of fd.scope) (gQ fd s.heap.objs.size a) (A.deeper (gQ fd s.heap.objs.size a)) (gQ fd s.heap.objs.size a::fr) (oM (bq.of fd.scope).names bu dm) H b6) (tl W (gQ fd s.heap.objs.size a) fr) (∀b o,s.heap.get? b=some o->b6.heap.get? b=some o) (∀b,Pv (gQ fd s.heap.objs.size a) b->s.heap.get? b=none)
theorem Fn {d:Nat} (h:d+10*(r+1)<=900):d+1<=recursionLimit/\ d+1+10*r<=900:=by unfold recursionLimit;exact ⟨bD (.l (.a .p (.m 10 (.s .q))) (.k 900)<| .g (.s .p) (.k 1000)) rfl h,bD (.l (.a .p (.m 10 (.s .q))) (.k 900)<| .g (.a (.s .p) (.m 10 .q)) (.k 900)) rfl h⟩
theorem Yo {u:Nat} (h:u+300*(r+1)+300<=ee):u+3+300*r+300<=ee:=bD (.l (.a (.a .p (.m 300 (.s .q))) (.k 300)) (.k 9900)<| .g (.a (.a (.a .p (.k 3)) (.m 300 .q)) (.k 300)) (.k 9900)) rfl h
theorem Fo (K:dR W) (k:∃c,W.G .jE= .ref c) {a:ak} {kB:aV} {R:ps->a4->Prop}
  (F:rE W a fd body bu n e2) (hd:dQ W.G W.h0 e2 kB) (B:as.length=n) (d:ow W (r+1) A fr H s.heap) (S:b4 W H s) (l:dQ W.G s.heap vs as)
  (v:∀b6,Entry W r a fd bu (as++kB) A fr H s b6->aR (aX W.prog W.w) (A.deeper (gQ fd s.heap.objs.size a)) (uE body (gQ fd s.heap.objs.size a)) (λ f s'=>R (.ok (.ret (match f with | .ret v=>v | _=> .none))) s')
   (λ e s'=>aR (aX W.prog W.w) (A.deeper (gQ fd s.heap.objs.size a)) (leaving (gQ fd s.heap.objs.size a) e) (λ _ i=>R (.error e) i) (λ C i=>R (.error C) i) s') b6):
  jc (aX W.prog W.w) A (.call (.ref a) ⟨vs,[]⟩) R s:=by
 obtain ⟨o,m⟩:=F.1;have D:∀x∈bu.zip (vs++e2),fd.scope.names.lookup x.1=some .local∨(fd.scope.names.lookup x.1=some .cell/\ ((zR (s.heap.objs.size+1) fd.scope.names []).lookup x.1).isSome=true):=λ x E=>
  (F.6.6.4 _ (S1 (a:=x.1) (b:=x.2) E).1).imp id λ q=>⟨q,Fm _ _ _ (.inl (mem_of_lookup q))⟩
 refine ah0 (Fn d.1).1 (S.1.2 _ _ m.1) m.2 F.6.3 F.6.4 F.2 (F.6.1.keeps S.1.2) ((kp_binds (bW.ji (s:=s) K S.1) (F.6.6.6 vs (l.length.trans B)):BindsTo s fd ⟨vs,[]⟩ (bu.zip (vs++e2))) _ _ _ _ ?_);rw [F.3];refine ah1 F.6.2 D λ env g b6 x=> ?_;subst g;refine ⟨(K.6.4.keeps S.1.2).keeps x.toInCall.keep,codeAny_func ?_⟩;have h:InCallC s (gQ fd s.heap.objs.size a).locals (zP (gQ fd s.heap.objs.size a).kindOf (bu.zip (vs++e2)) λ _=>none) (gQ fd s.heap.objs.size a).cells (zQ (gQ fd s.heap.objs.size a).kindOf (bu.zip (vs++e2)) λ _=>none) b6:=x;have j:=x.toInCall.keep;have t:=L8 F S.1 (l.append (hd.stays (.of_keep S.1.2))) h;have u:∀b,Pv (gQ fd s.heap.objs.size a) b->s.heap.get? b=none:=λ b p=>p.elim (λ e=>e▸xQ h.toInCall.fresh) λ p=>p.elim λ y G=>xQ (bF (a9 h.toInCall.fresh (h.above y b (mem_of_lookup G))));have I:j1 W (gQ fd s.heap.objs.size a::fr) H b6.heap:=λ e g=>by
  cases g with
  | tail _ g=>exact (d.5.keep (bh.grows S.1 cT j:bh W cT H s.heap H b6.heap) λ _ _ _ _=>id:j1 W fr H b6.heap) e g
  | head=>
   obtain ⟨bw,es,ep,M,N,_⟩:=h.toInCall.ns;obtain ⟨z,nm,_⟩:=t.6.6.2;exact ⟨F.6.2,_,bw,rfl,z,M,⟨es,ep,N⟩,nm⟩
 refine v b6 ⟨⟨⟨(Fn d.1).2,Yo d.2,d.3,?_,I⟩,(h.done.elim λ J z=>z.elim λ tk z=>⟨S.1.grow j,z.1▸S.2,z.1▸S.3⟩:b4 W H b6),t⟩,⟨rfl,λ e g L O p=> ?_,Fh k,Yi k⟩,j,u⟩
 ·show A.frames.map _=_;rw [d.4];rfl
 ·obtain ⟨iK,bw,w⟩:=(d.5 e g).2;have P:=w.2.2.1;exact no ((u _ p).symm.trans (dC w.1 O▸P))
theorem nh.from {P:ak->Prop} {J:a3} {v:aE} {s':a4} (k:bh W P gq h0 H1 J) (b:∀a,J.get? a=none->h0.get? a=none) (x:nh W P H1 J fr E v s'):nh W P gq h0 fr E v s':=by
 obtain ⟨e,c,d,a1,a2,bA,cW,f⟩:=x;exact ⟨e,c,d,a1,k.trans a2,bA,cW.from b,f⟩
theorem Yq (K:dR W) (h:∃c,W.G .jE= .ref c) {a:ak} {code:aJ}
  (F:rE W a fd body bu n e2) (C:∃f,nH W r (bq.of fd.scope) body f∧f []=code) (hd:dQ W.G W.h0 e2 kB) (k:as.length=n)
  (v:runs W r E code [] (oM (bq.of fd.scope).names bu (as++kB)) H (jH Q)):Bg W (r+1) (.ref a) as H Q E:=by
 intro A fr s vs R S l;obtain ⟨f,m,rfl⟩:=C;refine Fo K h F hd k R S l λ b6 X=> ?_;have k1:bh W cT H s.heap H b6.heap:=bh.grows S.1 cT X.3;refine cL (m X.1 X.2 v) (λ f i z=> ?_) λ e i z=> ?_
 ·obtain ⟨cy,x,g,a1,a2,bA,cW,d⟩:=z;have j:bh W cT H s.heap g i.heap:=bh.qW (P':=Pv (gQ fd s.heap.objs.size a)) (k1.gI.trans bA) λ b p=> .inr (X.4 b p)
  induction a1 with
  | next=>exact ⟨.none,g,a2,j,.none,d⟩
  | ret o=>exact ⟨_,g,a2,j,o,d⟩
  | brk=>exact d.elim
  | cont=>exact d.elim
 ·refine Yj h X.1.1.4 X.1.2.1.2 z λ t' y=> ?_;obtain ⟨t,g,u,a1,a2,bA,cW,d,_⟩:=y;exact ⟨t,g,u,a1,bh.qW (P':=Pv (gQ fd s.heap.objs.size a)) (k1.gI.trans a2) λ b p=> .inr (X.4 b p),λ e w=>bA e (.tail _ w),cW.from λ b q=>k1.3 b id q,d⟩
noncomputable abbrev tm (W:a0) (C i:aP):Prop:=A2 (C.q1=true) (dB λ c f=>W.G C= .ref c∧W.G i= .ref f∧makesIn W.K c=true∧findIn W.K (.ref c) "__init__"=some (some (.ref f))∧oe W.K (.ref f)=some (.type "function"))
noncomputable def p1:bp->Option ai:=λ _=>none
theorem Yr {h:a3} {C:aP} {c:ak} (a:W.G C= .ref c):iB W.G ((h.push uH).push (wN c h.objs.size)) (h.objs.size+1) C p1 h.objs.size:=by
 have b:((h.push uH).push (wN c h.objs.size)).get? h.objs.size=some uH:=dP _ (hc h rfl);exact ⟨_,_,λ _=>none,((Tc h uH)▸hc (h.push uH) (o:=wN c h.objs.size) rfl:((h.push uH).push (wN c h.objs.size)).get? (h.objs.size+1)=some (wN c h.objs.size)),a.symm,⟨c,a⟩,⟨rfl,λ vs q=>(by cases q)⟩,rfl,b,⟨_,_,rfl⟩,⟨_,#[],_,b,rfl,(λ _ h=>hQ h.1),ah2,λ x=>rfl⟩,(λ f bg q=>(by cases q)),λ x v q=>(by cases q)⟩
theorem Mc {d u r:Nat} (h:d+10*(r+1)<=900) (h':u+300*(r+1)+300<=ee):d+1+10*r<=900/\ u+1+300*r+300<=ee:=⟨bD (.l (.a .p (.m 10 (.s .q))) (.k 900)<| .g (.a (.s .p) (.m 10 .q)) (.k 900)) rfl h,bD (.l (.a (.a .p (.m 300 (.s .q))) (.k 300)) (.k 9900)<| .g (.a (.a (.s .p) (.m 300 .q)) (.k 300)) (.k 9900)) rfl h'⟩
theorem zS (K:dR W) {C i:aP} (M:tm W C i)
  (v:∀x,H x=none->dw W r i (.ref x::as) (H.upd x (.inst C p1)) (λ v aa=>v= .none∧Q (.ref x) aa) E):dw W (r+1) C as H Q E:=by
 intro A fr s vs R S m;obtain ⟨c,f,a⟩:=M.2;rw [a.1];have X:W.K.In s.1:=bW.ji (s:=⟨s.1,s.2,s.3,s.4,s.5⟩) K S.1;refine make_core (makes_of X a.2.2.1) (sG X a.2.2.2.1) (λ self=>bind_fn X self a.2.2.2.2) (.inl rfl) ?_;have d:s.1.get? (s.1.objs.size+1)=none:=xQ (sF _);have hd:s.1.get? s.1.objs.size=none:=gA _;have g:∀b o,s.1.get? b=some o->((s.1.push uH).push (wN c s.1.objs.size)).get? b=some o:=λ b o e=>dP _ (dP _ e);have j:=Yr (W:=W) (h:=s.1) a.1;have k:s.1.objs.size≠s.1.objs.size+1:=e6 (gj _);have k2:=bh.uT S.1 cT d hd k g j;have l:=Mc R.1 R.2;have z:=v (s.1.objs.size+1) (S.1.none_of d) (A.under (.builtin "type.__call__" ⟨.ref c::vs,[]⟩)) fr ⟨(s.1.push uH).push (wN c s.1.objs.size),s.2,s.3,s.4,s.5⟩ (.ref (s.1.objs.size+1)::vs) ⟨l.1,l.2,R.3,R.4,R.5.keep k2 λ _ _ _ _=>id⟩ ⟨S.1.uT d hd k g j,S.2,S.3⟩ (.cons (.ref _) (m.stays (.of_keep g)));rw [a.2.1] at z;refine wI z λ n s' y=> ?_;rcases n with e | (v | _ | _ | _)<;>try exact y.elim
 ·exact y.from k2 λ b q=>k2.3 b id q
 ·obtain ⟨bg,p,a1,a2,bA,rfl,t⟩:=y;exact ⟨bA.inv,.ref (s.1.objs.size+1),p,a1,k2.trans a2,.ref _,t⟩
end
end
section
noncomputable def Ys:aw:=[68,73,80,87,94,116,158,169,174,181,189,196,203,210,217,222,258,269,277,296,378,389,395,403,408,413,418,423,430,59,46,36,106,134,236,293,312,43,113,243,248,255,319,326,347,354,361,368,375]
noncomputable def adr (g:aP):ak:=Ys.getD g 0
noncomputable def gu (g:aP):aE:=match g.builtin with
 | true=>q6 g
 | false=> .ref (adr g)
noncomputable def Yt (vs:cH) (l:bZ):Bool:=vs.length==l.length&&(vs.zip l).all λ p=>ah3 p.2 p.1
theorem Yu:∀{vs:cH} {l:bZ},vs.length=l.length->(∀p∈vs.zip l,ah3 p.2 p.1=true)->dQ G h vs (l.map .str):=by
 intro vs
 induction vs with
 | nil=>intro l e _;exact (wi e.symm)▸.nil
 | cons v vs ih=>
  intro l e h;cases l with
  | nil=>exact (by cases e)
  | cons x l=>
   have h:=kg.mp h;exact (Value.isStrOf_shape h.1).elim λ t q=>(show v=_ from q)▸.cons (.str x t) (ih (wx e) h.2)
noncomputable def Fq (K:dt) (C:aP) (c:ak):Bool:=
 findIn K (.ref c) "__getattribute__"==some (some (.builtin "object.__getattribute__"))&&findIn K (.ref c) "__getattr__"==some none&&findIn K (.ref c) "__setattr__"==some (some (.builtin "object.__setattr__"))&&zu K c&&plainOver K c&&
  (S6 34).all λ f=> !pu C f||findIn K (.ref c) (bp.str f)==some none
theorem Yv {C:aP} {c:ak} (h:Fq K C c=true):Ek K C c:=by
 have h:=d6.mp h;have J:=d6.mp h.1;have a:=d6.mp J.1;have b:=d6.mp a.1;have d:=d6.mp b.1;exact ⟨ed d.1,ed d.2,ed b.2,a.2,J.2,λ f e=>ed ((Sa.mp (kT.mp h.2 f (ah4 f))).resolve_left λ q=>by rw [e] at q;exact zM q)⟩
noncomputable def Md (K:dt) (p:aW×aP×aP):Bool:=p.2.1.q1&&(S6 34).all (λ f=>bp.str f !=p.1)&& !p.2.2.builtin&&gu p.2.1== .ref (adr p.2.1)&&findIn K (.ref (adr p.2.1)) p.1==some (some (.ref (adr p.2.2)))&&oe K (.ref (adr p.2.2))==some (.type "function")
noncomputable def Fs (K:dt) (p:aW×aP):Bool:=if p.2.builtin then kh K ib p.1==some none&&bootBuiltins p.1==some (gu p.2)&&p.1 !="__name__" else kh K ib p.1==some (some (gu p.2))
noncomputable def Ft (o:dq):cH:=match o.data with
 | .seq items _=>items.toList
 | _=>[]
noncomputable def Fu (o:dq):Bool:=match o.data with
 | .seq _ _=>true
 | _=>false
noncomputable def xS (K:dt) (x:aW) (a:ak) (l:bZ):Bool:=kh K ib x==some (some (.ref a))&&(K.lookup a).any λ o=>o.cls== .type "tuple"&&o.dict.isNone&&Fu o&&Yt (Ft o) l
noncomputable def Me:bZ:=["xyz","xzy","yxz","yzx","zxy","zyx"].map bj
noncomputable def Mf:bZ:=["$end","error","$undefined"].map bj
noncomputable def Fv (K:dt):Bool:=(kh K ib (bj "END")).any λ v=>v.any (ah5 0)
noncomputable def Mg (K:dt):Bool:=([aP.hj,.kW,.jD,.iy,.fq].all λ C=>gu C== .ref (adr C)&&Fq K C (adr C))&&((cg 49).all λ g=>keepIn K (gu g))&&u0.all (Md K)&&sX.all (Fs K)&&Fv K&&xS K (bj "OWN_TERMINALS") 278 Mf&&xS K (bj "_law_orders") 396 Me
theorem Mh (g:aP) (h:g.builtin=true):gu g=q6 g:=by unfold gu;rw [h]
theorem Mi (g:aP) (h:g.builtin=false):gu g= .ref (adr g):=by unfold gu;rw [h]
theorem k_handed (g:aP):uk (gu g)=true:=by
 cases e:g.builtin with
 | false=>rw [Mi g e];rfl
 | true=>
  rw [Mh g e];unfold q6;rw [eS];generalize a:[wo "len",.type "range",.type "list",.type "tuple",.type "dict",.builtin "sorted",.type "int",.type "str",.builtin "max"]=L;cases e:L[g - 49]? with
  | none=>kernel_rfl
  | some v=>exact (a▸kT.mp (by kernel_rfl):∀v∈L,uk v=true) v (cY e)
noncomputable abbrev xT (K:dt):Prop:=eT (([aP.hj,.kW,.jD,.iy,.fq].all λ C=>gu C== .ref (adr C)&&Fq K C (adr C))=true) (((cg 49).all λ g=>keepIn K (gu g))=true) (u0.all (Md K)=true) (sX.all (Fs K)=true) (Fv K=true) (A2 (xS K (bj "OWN_TERMINALS") 278 Mf=true) (xS K (bj "_law_orders") 396 Me=true))
theorem fc {a b:Bool} {P:Prop} (h:(a&&b)=true) (k:a=true->b=true->P):P:=(d6.mp h).elim k
theorem Yw (h:Mg K=true):xT K:=fc h λ h a=>fc h λ h b=>fc h λ h c=>fc h λ h cW=>fc h λ h bA=>fc h λ a1 a2=>⟨a1,a2,bA,cW,c,b,a⟩
section
variable {K:dt} (cw:xT K)
include cw
theorem k_cls (C:aP) (c:ak) (h:C.q1=true) (e:gu C= .ref c):Ek K C c:=by
 have z:=d6.mp (kT.mp cw.1 C (ahS.mp h));obtain rfl:c=adr C:=wM (e.symm.trans (ed z.1));exact Yv z.2
theorem Yx (g:aP) (h:g.builtin=false):keepIn K (gu g)=true:=kT.mp cw.2 g (fK.mpr (IC λ q=>zM (h.symm.trans (Nat.ble_eq.mpr q))))
theorem Yy (x:aW) (C g:aP) (e:u0.lookup x=some (C,g)):C.q1=true∧(∀f:bp,f.str≠x)∧g.builtin=false∧∀c,gu C= .ref c->∃a,gu g= .ref a∧findIn K (.ref c) x=some (some (.ref a))∧oe K (.ref a)=some (.type "function"):=by
 have h:=d6.mp (kT.mp cw.3 _ (Tn e));have J:=d6.mp h.1;have b:=d6.mp J.1;have d:=d6.mp b.1;have i:=d6.mp d.1;have j:=zL _▸d.2;exact ⟨i.1,λ f=>bne_iff_ne.mp (kT.mp i.2 f (ah4 f)),j,λ c q=>⟨adr g,Mi g j,wM ((ed b.2).symm.trans q)▸ed J.2,ed h.2⟩⟩
theorem Yz (x:aW) (g:aP) (e:sX.lookup x=some g):kh K ib x=some (some (gu g))∨(kh K ib x=some none∧bootBuiltins x=some (gu g)∧x≠"__name__"):=by
 have h:=kT.mp cw.4 _ (Tn e);unfold Fs at h
 by_cases c:g.builtin=true
 ·rw [if_pos c] at h;have h:=d6.mp h;have J:=d6.mp h.1;exact .inr ⟨ed J.1,ed J.2,bne_iff_ne.mp h.2⟩
 ·rw [if_neg c] at h;exact .inl (ed h)
end
theorem isInt_shape {i:Int} {v:aE} (h:ah5 i v=true):∃t,v= .int i t:=by
 cases v<;>first | exact absurd h fS | exact (ed h:_=i)▸⟨_,rfl⟩
theorem YA {o:dq} (h:Fu o=true):dB λ items n=>o.data= .seq items n∧Ft o=items.toList:=by
 unfold Fu at h;unfold Ft;cases e:o.data with
 | seq items n=>exact ⟨items,n,rfl,rfl⟩
 | _=>rw [e] at h;exact absurd h fS
theorem Bh {x:aW} {a:ak} {l:bZ} {G:aP->aE} (X:K.In h) (c:xS K x a l=true):kh K ib x=some (some (.ref a))∧bt G h (.ref a) (.tup (l.map .str)):=by
 have c:=d6.mp c;refine ⟨ed c.1,?_⟩;cases e:K.lookup a with
 | none=>rw [e] at c;exact absurd c.2 fS
 | some o=>
  rw [e] at c;have d:=d6.mp (show (_&&_)=true from c.2);have f:=d6.mp d.1;have g:=d6.mp f.1;have b:=d6.mp d.2;obtain ⟨items,n,i⟩:=YA f.2;rw [i.2] at b;exact .tup (X _ _ e) ⟨ed g.1,Option.isNone_iff_eq_none.mp g.2⟩ i.1 (Yu (ed b.1) (kT.mp b.2))
end
section
noncomputable def YB:aJ:=[.ae 3,.aN (.int 0),.cmp .Gt,.cf [.ae 3,.aN (.int 1),.bin .BitAnd,.aN (.int 1),.cmp .Eq,.cf [.ae 1,.cG (.b .append),.ae 2,.cj true (.b .append) 1,.pop] [],.ae 3,.aN (.int 1),.bin .RShift,.st (.one 3),.ae 2,.aN (.int 1),.bin .Add,.st (.one 2)] [.brk]]
noncomputable def Mj:aJ:=[.list 0,.st (.one 1),.aN (.int 0),.st (.one 2),.ae 0,.st (.one 3),.loop YB,.ae 1,.ret]
noncomputable def YC:aJ:=[.ae 2,.ae 4,.sub,.cf [] [.ae 8,.aN (.int 1),.bin .Add,.st (.one 8),.ae 5,.ae 4,.sub,.cG (.b .append),.ae 7,.bi 2,.cj true (.b .append) 1,.pop]]
noncomputable def YD:aJ:=[.aN (.int 0),.st (.one 8),.ae 7,.bi 19,.each (.one 4) YC,.ae 3,.cG (.b .append),.ae 8,.cj true (.b .append) 1,.pop]
noncomputable def YE:aJ:=[.ae 3,.ae 7,.bi 2,.sub,.aN (.int 0),.cmp .Eq,.cf [.ae 2,.ae 7,.bi 18,.sub,.cf [] [.aN (.bool true),.ae 2,.ae 7,.bi 18,.hl,.ae 6,.cG (.b .append),.ae 7,.bi 18,.cj true (.b .append) 1,.pop]] []]
noncomputable def YF:aJ:=[.ae 3,.ae 10,.sub,.aN (.int 1),.bin .Sub,.ae 3,.ae 10,.hl,.ae 0,.bi 26,.ae 10,.sub,.bi 18,.st (.one 11),.ae 3,.ae 10,.sub,.aN (.int 0),.cmp .Eq,.cf [.ae 2,.ae 11,.sub,.cf [] [.aN (.bool true),.ae 2,.ae 11,.hl,.ae 6,.cG (.b .append),.ae 11,.cj true (.b .append) 1,.pop]] []]
noncomputable def YG:aJ:=[.ae 9,.ae 6,.call false 49 1,.cmp .Lt,.cf [.ae 5,.ae 6,.ae 9,.sub,.sub,.each (.one 10) YF,.ae 9,.aN (.int 1),.bin .Add,.st (.one 9)] [.brk]]
noncomputable def Mk:aJ:=[.ae 1,.call true 51 1,.st (.one 2),.list 0,.st (.one 3),.ae 2,.comp (.one 0) 1 [] [.list 0],.st (.one 5),.list 0,.st (.one 6),.ae 0,.bi 26,.each (.one 7) YD,.ae 0,.bi 26,.each (.one 7) YE,.aN (.int 0),.st (.one 9),.loop YG,.ae 2,.ret]
noncomputable def Ml:aJ:=[.ae 0,.aN (.bool false),.list 1,.ae 0,.cG (.o 20 42),.cj false (.o 20 42) 0,.bin .Mult,.call true 1 2,.ret]
noncomputable def YH:aJ:=[.ae 3,.ae 2,.ae 4,.sub,.bin .BitOr,.st (.one 3),.ae 1,.ae 4,.sub,.cf [] [.ae 3,.aN (.bool false),.tup 2,.ret]]
noncomputable def Mm:aJ:=[.aN (.int 0),.st (.one 3),.ae 0,.each (.one 4) YH,.ae 3,.aN (.bool true),.tup 2,.ret]
noncomputable def YI:aJ:=[.ae 2,.cG (.b .append),.ae 0,.cG (.o 20 43),.ae 3,.cj false (.o 20 43) 1,.cf [.aN (.int 1),.ae 3,.bin .LShift] [.aN (.int 0)],.cj true (.b .append) 1,.pop]
noncomputable def YJ:aJ:=[.ae 2,.ae 5,.bi 18,.sub,.ae 5,.bi 19,.ae 1,.ae 2,.call false 3 3,.aN (.int 0),.sub,.bin .BitOr,.st (.one 6),.ae 6,.ae 2,.ae 5,.bi 18,.sub,.cmp .NotEq,.cf [.ae 6,.ae 2,.ae 5,.bi 18,.hl,.aN (.bool true),.st (.one 4)] []]
noncomputable def YK:aJ:=[.ae 4,.cf [.aN (.bool false),.st (.one 4),.ae 0,.bi 26,.each (.one 5) YJ] [.brk]]
noncomputable def Mn:aJ:=[.ae 0,.call true 2 1,.st (.one 1),.list 0,.st (.one 2),.ae 0,.cG (.o 20 42),.cj false (.o 20 42) 0,.call false 50 1,.each (.one 3) YI,.aN (.bool true),.st (.one 4),.loop YK,.ae 2,.ret]
noncomputable def Mo:aJ:=[.ae 0,.cG (.o 20 45),.ae 11,.aN (.int 0),.cj true (.o 20 45) 2,.st (.one 12),.ae 4,.cG (.b .get),.ae 12,.aN (.int 1),.neg,.cj true (.b .get) 2,.st (.one 13),.ae 13,.aN (.int 0),.cmp .Lt,.cf [.ae 9,.ae 4,.ae 12,.hl,.ae 5,.cG (.b .append),.ae 12,.cj true (.b .append) 1,.pop] [.ae 13,.ae 9,.bin .BitOr,.ae 13,.cmp .NotEq,.cf [.ae 13,.ae 9,.bin .BitOr,.ae 4,.ae 12,.hl,.ae 5,.cG (.b .append),.ae 12,.cj true (.b .append) 1,.pop] []]]
noncomputable def YL:aJ:=[.ae 5,.cf [.ae 5,.cG (.b .pop),.cj true (.b .pop) 0,.st (.one 6),.ae 0,.cG (.o 20 48),.ae 6,.cj true (.o 20 48) 1,.st (.one 7),.ae 7,.aN (.int 0),.cmp .Lt,.cf [.cont] [.ae 0,.cG (.o 20 43),.ae 7,.cj false (.o 20 43) 1,.cf [.cont] []],.ae 0,.bi 26,.ae 0,.cG (.o 20 46),.ae 6,.cj false (.o 20 46) 1,.sub,.bi 19,.st (.one 8),.ae 8,.ae 0,.cG (.o 20 47),.ae 6,.cj false (.o 20 47) 1,.aN (.int 1),.bin .Add,.aN .none,.slice,.ae 2,.ae 3,.call true 3 3,.st (.tup [9,10]),.ae 10,.cf [.ae 9,.ae 4,.ae 6,.sub,.bin .BitOr,.st (.one 9)] [],.ae 0,.cG (.o 20 44),.ae 7,.cj false (.o 20 44) 1,.each (.one 11) Mo] [.brk]]
noncomputable def Mp:aJ:=[.ae 1,.call true 53 1,.st (.one 4),.ae 4,.call true 51 1,.st (.one 5),.loop YL,.ae 4,.ret]
noncomputable def YM:aJ:=[.ae 0,.cG (.o 20 48),.ae 3,.cj true (.o 20 48) 1,.st (.one 4),.ae 4,.aN (.int 0),.cmp .GtE,.cf [.ae 0,.cG (.o 20 45),.ae 0,.cG (.o 20 46),.ae 3,.cj false (.o 20 46) 1,.ae 0,.cG (.o 20 47),.ae 3,.cj false (.o 20 47) 1,.aN (.int 1),.bin .Add,.cj true (.o 20 45) 2,.st (.one 5),.ae 2,.cG (.b .k6),.ae 4,.list 0,.cj false (.b .k6) 2,.cG (.b .append),.ae 5,.ae 1,.ae 3,.sub,.tup 2,.cj true (.b .append) 1,.pop] []]
noncomputable def Mq:aJ:=[.iE,.st (.one 2),.ae 1,.each (.one 3) YM,.ae 2,.call false 54 1,.comp (.one 0) 1 [2] [.ae 0,.ae 1,.ae 0,.sub,.call false 54 1,.call false 52 1,.tup 2],.ret]
noncomputable def Mr:aJ:=[.ae 0,.cG (.o 20 45),.aN (.int 0),.aN (.int 0),.cj false (.o 20 45) 2,.aN (.int 0),.tup 2,.tup 1,.ret]
noncomputable def YN:aJ:=[.ae 5,.cG (.b .get),.ae 9,.aN (.int 1),.neg,.cj true (.b .get) 2,.st (.one 10),.ae 10,.aN (.int 0),.cmp .Lt,.cf [.ae 4,.call true 49 1,.st (.one 10),.ae 10,.ae 1,.cmp .GtE,.cf [.aN (.str (bj "more than ")),.ae 1,.call false 56 1,.bin .Add,.aN (.str (bj " canonical states")),.bin .Add,.raise] [],.ae 10,.ae 5,.ae 9,.hl,.ae 4,.cG (.b .append),.ae 10,.ae 9,.ae 8,.call false 5 3,.cj true (.b .append) 1,.pop] [],.ae 10,.ae 7,.bi 7,.ae 8,.hl]
noncomputable def YO:aJ:=[.ae 6,.ae 4,.call false 49 1,.cmp .Lt,.cf [.ae 4,.ae 6,.sub,.st (.one 7),.ae 7,.cG (.o 5 38),.ae 0,.ae 0,.ae 7,.bi 3,.ae 2,.ae 3,.call false 7 4,.cj true (.o 5 38) 2,.pop,.ae 0,.ae 7,.bi 6,.call false 8 2,.each (.tup [8,9]) YN,.ae 6,.ints,.aN (.int 1),.ints,.bin .Add,.st (.one 6)] [.brk]]
noncomputable def Ms:aJ:=[.ae 0,.call true 2 1,.st (.one 2),.ae 0,.call true 4 1,.st (.one 3),.aN (.int 0),.ae 0,.call false 9 1,.aN (.int 1),.neg,.call false 5 3,.list 1,.st (.one 4),.iE,.ae 4,.aN (.int 0),.sub,.bi 3,.aN (.int 0),.sU,.st (.one 5),.aN (.int 0),.st (.one 6),.loop YO,.ae 0,.ae 4,.call true 6 2,.ret]
noncomputable def YQ:aJ:=[.ae 2,.cG (.b .k6),.ae 4,.list 0,.cj false (.b .k6) 2,.cG (.b .append),.ae 3,.cj true (.b .append) 1,.pop]
noncomputable def YR:aJ:=[.ae 1,.ae 3,.sub,.call false 0 1,.each (.one 4) YQ]
noncomputable def YS:aJ:=[.ae 2,.ae 4,.sub,.st (.one 6),.ae 6,.call false 49 1,.aN (.int 1),.cmp .Gt,.cf [.ae 6,.call true 52 1,.ae 5,.ae 4,.hl] [.ae 4,.ae 0,.cmp .In,.cf [.ae 6,.call true 52 1,.ae 5,.ae 4,.hl] []]]
noncomputable def Mt:aJ:=[.iE,.st (.one 2),.ae 1,.call false 54 1,.each (.one 3) YR,.iE,.st (.one 5),.ae 2,.call false 54 1,.each (.one 4) YS,.ae 5,.ret]
noncomputable def YT:aJ:=[.ae 1,.cG (.b .append),.ae 2,.bi 2,.ae 4,.ae 3,.ae 4,.sub,.tup 3,.cj true (.b .append) 1,.pop]
noncomputable def YU:aJ:=[.ae 2,.bi 7,.ae 2,.bi 9,.call true 11 2,.st (.one 3),.ae 3,.each (.one 4) YT]
noncomputable def Mu:aJ:=[.list 0,.st (.one 1),.ae 0,.bi 11,.each (.one 2) YU,.ae 1,.ret]
noncomputable def Mv:aJ:=[.ae 0,.call false 12 1,.not,.ret]
noncomputable def YV:aJ:=[.ae 0,.ae 3,.sub,.aN (.int 1),.sub,.ae 1,.ae 4,.sub,.aN (.int 1),.sub,.bin .BitAnd,.aN (.int 0),.cmp .Eq,.cf [.ae 0,.ae 4,.sub,.aN (.int 1),.sub,.ae 1,.ae 3,.sub,.aN (.int 1),.sub,.bin .BitAnd,.aN (.int 0),.cmp .Eq,.cf [.cont] []] [],.ae 0,.ae 3,.sub,.aN (.int 1),.sub,.ae 0,.ae 4,.sub,.aN (.int 1),.sub,.bin .BitAnd,.cf [.cont] [.ae 1,.ae 3,.sub,.aN (.int 1),.sub,.ae 1,.ae 4,.sub,.aN (.int 1),.sub,.bin .BitAnd,.cf [.cont] []],.aN (.bool false),.ret]
noncomputable def YW:aJ:=[.ae 3,.aN (.int 1),.bin .Add,.ae 2,.call false 50 2,.each (.one 4) YV]
noncomputable def Mw:aJ:=[.ae 0,.call true 49 1,.st (.one 2),.ae 2,.call false 50 1,.each (.one 3) YW,.aN (.bool true),.ret]
noncomputable def Mx:aJ:=[.ae 0,.call false 49 1,.call false 50 1,.comp (.one 0) 1 [0,1] [.ae 1,.ae 0,.sub,.aN (.int 0),.sub,.ae 1,.ae 0,.sub,.aN (.int 1),.sub,.ae 2,.ae 0,.sub,.aN (.int 1),.sub,.bin .BitOr,.tup 2],.call true 52 1,.ret]
noncomputable def YX:aJ:=[.ae 5,.ae 6,.sub,.ae 3,.cmp .NotIn,.cf [.ae 2,.call true 49 1,.ae 3,.ae 5,.ae 6,.sub,.hl,.ae 2,.cG (.b .append),.ae 5,.ae 6,.sub,.cj true (.b .append) 1,.pop] []]
noncomputable def YY:aJ:=[.ae 4,.ae 2,.call false 49 1,.cmp .Lt,.cf [.ae 1,.ae 2,.ae 4,.sub,.sub,.bi 7,.st (.one 5),.ae 5,.call false 54 1,.each (.one 6) YX,.ae 4,.ints,.aN (.int 1),.ints,.bin .Add,.st (.one 4)] [.brk]]
noncomputable def YZ:aJ:=[.ae 3,.ae 9,.bi 7,.ae 6,.sub,.sub,.ae 10,.bi 7,.ae 6,.hl]
noncomputable def Y0:aJ:=[.ae 1,.ae 8,.sub,.st (.one 9),.ae 7,.call false 49 1,.ae 9,.bi 3,.ae 9,.bi 5,.call true 5 3,.st (.one 10),.ae 10,.cG (.o 5 38),.ae 0,.ae 9,.bi 6,.cj true (.o 5 38) 2,.pop,.ae 9,.bi 7,.call false 54 1,.each (.one 6) YZ,.ae 7,.cG (.b .append),.ae 10,.cj true (.b .append) 1,.pop]
noncomputable def My:aJ:=[.aN (.int 0),.list 1,.st (.one 2),.iE,.aN (.int 0),.aN (.int 0),.sU,.st (.one 3),.aN (.int 0),.st (.one 4),.loop YY,.list 0,.st (.one 7),.ae 2,.each (.one 8) Y0,.ae 0,.ae 7,.call true 6 2,.ret]
noncomputable def xU:aJ:=[.ae 0,.ae 1,.call true 16 2,.st (.one 2),.ae 2,.cG (.o 16 41),.cj true (.o 16 41) 0,.pop,.ae 0,.ae 2,.bi 11,.call true 17 2,.ret]
noncomputable def Y1:aJ:=[.ae 3,.ae 1,.cmp .Lt,.cf [.ae 3,.st (.one 2)] []]
noncomputable def Mz:aJ:=[.aN (.int 1),.neg,.st (.one 2),.ae 0,.each (.one 3) Y1,.ae 2,.ret]
noncomputable def Y2:aJ:=[.ae 3,.aN (.str (bj "error")),.cmp .Eq,.cf [.aN (.str (bj "the name ")),.ae 3,.bin .Add,.aN (.str (bj " cannot have rules")),.bin .Add,.raise] [.ae 3,.aN .none,.aN (.int 1),.slice,.aN (.str (bj "")),.aN (.str (bj "$")),.aN (.str (bj "'")),.tup 3,.cmp .In,.cf [.aN (.str (bj "the name ")),.ae 3,.bin .Add,.aN (.str (bj " cannot have rules")),.bin .Add,.raise] []],.ae 3,.ae 2,.cmp .NotIn,.cf [.ae 2,.cG (.b .append),.ae 3,.cj true (.b .append) 1,.pop] []]
noncomputable def Y3:aJ:=[.ae 7,.ae 2,.cmp .NotIn,.cf [.ae 7,.ae 6,.cmp .NotIn,.cf [.ae 6,.cG (.b .append),.ae 7,.cj true (.b .append) 1,.pop] []] []]
noncomputable def Y4:aJ:=[.ae 4,.each (.one 7) Y3]
noncomputable def Y5:aJ:=[.ae 4,.comp (.one 0) 1 [6] [.ae 1,.cG (.b .index),.ae 0,.cj false (.b .index) 1],.call true 52 1,.st (.one 10),.ae 9,.cG (.b .append),.ae 9,.call false 49 1,.ae 6,.cG (.b .index),.ae 3,.cj false (.b .index) 1,.ae 10,.ae 10,.ae 8,.call false 21 2,.call false 19 4,.cj true (.b .append) 1,.pop]
noncomputable def MA:aJ:=[.list 0,.st (.one 2),.ae 0,.each (.tup [3,4]) Y2,.ae 1,.aN .none,.cmp .IsNot,.cf [.ae 1] [.ae 2,.list 0,.cmp .Eq,.cf [.ae 1] [.ae 2,.aN (.int 0),.sub]],.st (.one 5),.ae 5,.ae 2,.cmp .NotIn,.cf [.aN (.str (bj "the start symbol has no rules")),.raise] [],.aN (.tup [.str (bj "$end"),.str (bj "error"),.str (bj "$undefined")]),.call true 51 1,.st (.one 6),.ae 0,.each (.tup [3,4]) Y4,.ae 6,.call true 49 1,.st (.one 8),.ae 6,.aN (.str (bj "$accept")),.list 1,.bin .Add,.ae 2,.bin .Add,.st (.one 6),.aN (.int 0),.ae 8,.ae 6,.cG (.b .index),.ae 5,.cj false (.b .index) 1,.aN (.int 0),.tup 2,.aN (.int 0),.call false 19 4,.list 1,.st (.one 9),.ae 0,.each (.tup [3,4]) Y5,.ae 6,.ae 8,.ae 9,.iE,.aN .none,.ae 6,.cG (.b .index),.ae 5,.cj false (.b .index) 1,.call true 20 6,.ret]
noncomputable def MB:aJ:=[.ae 1,.ae 0,.call false 49 1,.bin .FloorDiv,.st (.one 3),.ae 0,.ae 1,.ae 0,.call false 49 1,.bin .Mod,.sub,.aN (.int 1),.ae 3,.bin .Add,.bin .FloorDiv,.aN (.int 5),.ae 3,.bin .Mult,.bin .Add,.ae 2,.bin .Mod,.ret]
noncomputable def Y6:aJ:=[.ae 7,.aN (.int 5),.bin .Add,.aN (.int 5),.ae 8,.bin .Mult,.bin .Add,.st (.one 9),.aN (.int 1),.ae 0,.ae 9,.aN (.int 2),.call false 23 3,.bin .Add,.st (.one 6),.ae 4,.cG (.b .append),.ae 5,.ae 6,.call false 50 1,.comp (.one 0) 1 [9,0] [.aN (.str (bj "x")),.aN (.str (bj "y")),.aN (.str (bj "s")),.aN (.str (bj "a")),.list 4,.ae 2,.ae 1,.aN (.int 1),.bin .Add,.ae 0,.bin .Add,.aN (.int 4),.call false 23 3,.sub],.tup 2,.cj true (.b .append) 1,.pop]
noncomputable def Y7:aJ:=[.ae 4,.cG (.b .append),.ae 5,.ae 0,.ae 7,.aN (.int 3),.call false 23 3,.call false 50 1,.comp (.one 0) 1 [7,0] [.aN (.str (bj "x")),.aN (.str (bj "y")),.list 2,.ae 2,.ae 1,.aN (.int 1),.bin .Add,.ae 0,.bin .Add,.aN (.int 2),.call false 23 3,.sub],.tup 2,.cj true (.b .append) 1,.pop,.aN (.int 1),.ae 0,.ae 7,.aN (.int 4),.bin .Add,.aN (.int 2),.call false 23 3,.bin .Add,.call false 50 1,.each (.one 8) Y6]
noncomputable def MC:aJ:=[.ae 0,.aN (.int 0),.aN (.int 4),.call false 23 3,.aN (.int 2),.cmp .Lt,.cf [.aN (.tup [.str (bj "xyz"),.str (bj "xzy"),.str (bj "yxz"),.str (bj "yzx"),.str (bj "zxy"),.str (bj "zyx")]),.ae 0,.aN (.int 1),.aN (.int 6),.call false 23 3,.sub,.call true 51 1,.st (.tup [1,2,3]),.aN (.str (bj "s")),.ae 3,.ae 3,.list 2,.tup 2,.aN (.str (bj "s")),.ae 1,.aN (.str (bj "a")),.ae 1,.list 3,.tup 2,.aN (.str (bj "s")),.ae 2,.aN (.str (bj "a")),.ae 2,.list 3,.tup 2,.aN (.str (bj "s")),.ae 1,.aN (.str (bj "b")),.ae 2,.list 3,.tup 2,.aN (.str (bj "s")),.ae 2,.aN (.str (bj "b")),.ae 1,.list 3,.tup 2,.list 5,.st (.one 4),.ae 4,.aN (.str (bj "a")),.ae 3,.list 1,.tup 2,.aN (.str (bj "b")),.ae 3,.list 1,.tup 2,.list 2,.bin .Add,.st (.one 4),.ae 0,.aN (.int 2),.aN (.int 3),.call false 23 3,.aN (.int 0),.cmp .Gt,.cf [.aN (.str (bj "s")),.aN (.str (bj "a")),.aN (.str (bj "b")),.list 3,.ae 0,.aN (.int 3),.aN (.int 3),.call false 23 3,.sub,.st (.one 5),.ae 0,.aN (.int 4),.aN (.int 3),.call true 23 3,.st (.one 6),.ae 4,.cG (.b .append),.ae 5,.ae 6,.call false 50 1,.comp (.one 0) 1 [0] [.aN (.str (bj "x")),.aN (.str (bj "y")),.aN (.str (bj "z")),.aN (.str (bj "a")),.aN (.str (bj "b")),.aN (.str (bj "z")),.list 6,.ae 1,.aN (.int 5),.ae 0,.bin .Add,.aN (.int 6),.call false 23 3,.sub],.tup 2,.cj true (.b .append) 1,.pop] [],.ae 4,.ret] [],.list 0,.st (.one 4),.aN (.int 8),.aN (.str (bj "s")),.tup 2,.aN (.int 24),.aN (.str (bj "a")),.tup 2,.tup 2,.each (.tup [7,5]) Y7,.ae 4,.ret]
noncomputable def MD:aJ:=[.ae 0,.bi 3,.comp (.tup [0,1]) 2 [] [.ae 0],.call true 52 1,.ret]
noncomputable def Y8:aJ:=[.ae 2,.ae 7,.cmp .NotEq,.cf [.ae 5,.ae 2,.sub,.aN (.int 1),.sub,.ae 5,.ae 7,.sub,.aN (.int 1),.sub,.bin .BitAnd,.aN (.int 0),.cmp .NotEq,.cf [.ae 3,.ae 2,.sub,.aN (.int 1),.sub,.ae 3,.ae 7,.sub,.aN (.int 1),.sub,.bin .BitAnd,.aN (.int 0),.cmp .Eq,.cf [.ae 4,.ae 2,.sub,.aN (.int 1),.sub,.ae 4,.ae 7,.sub,.aN (.int 1),.sub,.bin .BitAnd,.aN (.int 0),.cmp .Eq,.cf [.aN (.bool false),.st (.one 6)] []] []] []] []]
noncomputable def ME:aJ:=[.ae 1,.call false 50 1,.each (.one 7) Y8]
noncomputable def MF:aJ:=[.aN (.int 1),.ae 0,.aN (.int 60),.aN (.int 4),.call false 23 3,.bin .Add,.st (.one 1),.ae 1,.call false 50 1,.comp (.one 0) 1 [0] [.aN (.int 3),.ae 0,.bin .Mult,.ae 1,.aN (.int 61),.aN (.int 2),.ae 0,.bin .Mult,.bin .Add,.aN (.int 32),.call false 23 3,.tup 2],.call true 52 1,.st (.one 3),.ae 1,.call false 50 1,.comp (.one 0) 1 [0] [.aN (.int 3),.ae 0,.bin .Mult,.ae 1,.aN (.int 62),.aN (.int 2),.ae 0,.bin .Mult,.bin .Add,.aN (.int 64),.call false 23 3,.aN (.int 2),.bin .FloorDiv,.aN (.int 7),.ae 0,.bin .Mult,.bin .Add,.aN (.int 32),.bin .Mod,.tup 2],.call true 52 1,.st (.one 4),.ae 1,.call false 50 1,.comp (.one 0) 1 [3,4] [.ae 1,.ae 0,.sub,.aN (.int 0),.sub,.ae 1,.ae 0,.sub,.aN (.int 1),.sub,.ae 2,.ae 0,.sub,.aN (.int 1),.sub,.bin .BitOr,.tup 2],.call true 52 1,.st (.one 5),.aN (.bool true),.st (.one 6),.ae 1,.call false 50 1,.each (.one 2) ME,.ae 3,.ae 4,.call false 14 2,.ae 6,.cmp .NotEq,.cf [.aN (.bool false),.ret] [.ae 4,.ae 3,.call false 14 2,.ae 6,.cmp .NotEq,.cf [.aN (.bool false),.ret] []],.ae 3,.ae 4,.call false 15 2,.ae 5,.cmp .Eq,.gc true [.ae 4,.ae 3,.call false 15 2,.ae 5,.cmp .Eq],.ret]
noncomputable def Y9:aJ:=[.ae 1,.cG (.o 20 46),.ae 2,.cj true (.o 20 46) 1,.st (.one 4),.ae 4,.aN (.int 0),.cmp .Gt,.cf [.ae 1,.cG (.o 20 47),.ae 2,.cj false (.o 20 47) 1,.ae 1,.bi 26,.ae 4,.sub,.bi 19,.call false 49 1,.cmp .Eq,.cf [.ae 0,.bi 6,.ae 2,.sub,.ae 3,.ae 4,.hl] []] []]
noncomputable def MG:aJ:=[.ae 0,.bi 3,.ae 0,.call false 25 1,.call false 54 1,.comp (.one 0) 1 [0] [.ae 0,.ae 1,.bi 6,.ae 0,.sub,.tup 2],.call false 52 1,.cmp .NotEq,.cf [.aN (.bool false),.ret] [.ae 0,.bi 4,.ae 0,.call false 25 1,.cmp .NotEq,.cf [.aN (.bool false),.ret] []],.iE,.st (.one 3),.ae 0,.bi 6,.each (.one 2) Y9,.ae 0,.bi 9,.ae 3,.cmp .Eq,.gc true [.ae 0,.bi 8,.ae 3,.call false 54 1,.cmp .Eq,.gc true [.ae 0,.bi 7,.call false 51 1,.ae 0,.bi 7,.call false 54 1,.cmp .Eq]],.ret]
noncomputable def Fw:aJ:=[.ae 1,.ae 0,.eh 2,.ae 2,.ae 0,.eh 3,.ae 2,.comp (.one 0) 1 [] [.ae 0,.aN (.int 0),.sub],.call true 52 1,.ae 0,.eh 4,.ae 3,.ae 0,.eh 5,.iE,.ae 0,.eh 6,.iE,.ae 0,.eh 7,.list 0,.ae 0,.eh 8,.iE,.ae 0,.eh 9]
noncomputable def Fx:aJ:=[.ae 1,.ae 0,.eh 10,.ae 2,.ae 0,.eh 11]
noncomputable def Fy:aJ:=[.ae 1,.ae 0,.eh 10,.ae 2,.ae 0,.eh 12,.ae 1,.call true 2 1,.ae 0,.eh 13,.ae 1,.call true 4 1,.ae 0,.eh 14,.list 0,.ae 0,.eh 11,.iE,.ae 0,.eh 15,.list 0,.ae 0,.eh 16,.list 0,.ae 0,.eh 17,.ae 0,.cG (.o 16 39),.ae 1,.call false 9 1,.aN (.int 1),.neg,.cj true (.o 16 39) 2,.pop]
noncomputable def Fz:aJ:=[.ae 1,.ae 0,.eh 2,.ae 2,.ae 0,.eh 18,.ae 3,.ae 0,.eh 19,.ae 4,.ae 0,.eh 20,.ae 5,.ae 0,.eh 21,.ae 6,.ae 0,.eh 22,.ae 7,.ae 0,.eh 23]
noncomputable def Za:aJ:=[.ae 0,.bi 30,.ae 7,.bi 18,.sub,.cG (.b .append),.ae 7,.bi 2,.cj true (.b .append) 1,.pop,.ae 0,.bi 31,.cG (.b .append),.ae 0,.bi 32,.call false 49 1,.cj true (.b .append) 1,.pop,.ae 0,.bi 32,.cG (.b .extend),.ae 7,.bi 2,.list 1,.ae 7,.bi 19,.call false 49 1,.aN (.int 1),.bin .Add,.bin .Mult,.cj true (.b .extend) 1,.pop]
noncomputable def FA:aJ:=[.ae 1,.ae 0,.eh 24,.ae 2,.ae 0,.eh 25,.ae 3,.ae 0,.eh 26,.ae 4,.ae 0,.eh 27,.ae 5,.ae 0,.eh 28,.ae 6,.ae 0,.eh 29,.ae 0,.bi 24,.comp (.one 0) 1 [] [.list 0],.ae 0,.eh 30,.list 0,.ae 0,.eh 31,.list 0,.ae 0,.eh 32,.ae 0,.bi 26,.each (.one 7) Za,.ae 0,.bi 32,.call true 49 1,.ae 0,.eh 33]
noncomputable def Zb:aJ:=[.ae 1,.cG (.o 20 46),.ae 3,.cj true (.o 20 46) 1,.st (.one 4),.ae 4,.aN (.int 0),.cmp .Gt,.cf [.ae 1,.cG (.o 20 48),.ae 3,.cj false (.o 20 48) 1,.aN (.int 0),.cmp .Lt,.cf [.ae 2,.ae 3,.sub,.ae 0,.bi 9,.ae 4,.hl] []] []]
noncomputable def MH:aJ:=[.ae 2,.ae 0,.eh 6,.iE,.ae 0,.eh 9,.ae 2,.each (.one 3) Zb,.ae 0,.bi 9,.call true 54 1,.ae 0,.eh 8]
noncomputable def MI:aJ:=[.ae 0,.bi 11,.call true 49 1,.st (.one 3),.ae 3,.ae 0,.bi 12,.cmp .GtE,.cf [.aN (.str (bj "more than ")),.ae 0,.bi 12,.call false 56 1,.bin .Add,.aN (.str (bj " states")),.bin .Add,.raise] [],.ae 3,.ae 1,.ae 2,.call true 5 3,.st (.one 4),.ae 0,.bi 11,.cG (.b .append),.ae 4,.cj true (.b .append) 1,.pop,.ae 0,.bi 15,.cG (.b .k6),.ae 4,.bi 4,.list 0,.cj false (.b .k6) 2,.cG (.b .append),.ae 3,.cj true (.b .append) 1,.pop,.ae 0,.bi 16,.cG (.b .append),.ae 3,.cj true (.b .append) 1,.pop,.ae 0,.bi 17,.cG (.b .append),.aN (.bool true),.cj true (.b .append) 1,.pop,.ae 3,.ret]
noncomputable def MJ:aJ:=[.ae 0,.bi 11,.ae 6,.sub,.st (.one 7),.ae 7,.bi 3,.ae 1,.call false 14 2,.cf [.ae 7,.bi 3,.ae 1,.call true 15 2,.st (.one 8),.ae 8,.ae 7,.bi 3,.cmp .NotEq,.cf [.ae 8,.ae 7,.eh 3,.ae 0,.bi 17,.ae 6,.sub,.cf [] [.aN (.bool true),.ae 0,.bi 17,.ae 6,.hl,.ae 0,.bi 16,.cG (.b .append),.ae 6,.cj true (.b .append) 1,.pop]] [],.ae 6,.ret] []]
noncomputable def MK:aJ:=[.ae 1,.comp (.one 0) 1 [] [.ae 0,.aN (.int 0),.sub],.call true 52 1,.st (.one 4),.ae 0,.bi 15,.cG (.b .get),.ae 4,.list 0,.cj false (.b .get) 2,.call true 51 1,.st (.one 5),.ae 3,.aN (.int 0),.cmp .GtE,.cf [.ae 3,.list 1,.ae 5,.bin .Add,.st (.one 5)] [],.ae 5,.each (.one 6) MJ,.ae 0,.cG (.o 16 39),.ae 1,.ae 2,.cj true (.o 16 39) 2,.ret]
noncomputable def Zc:aJ:=[.ae 0,.cG (.o 16 40),.ae 5,.ae 4,.ae 3,.bi 7,.cG (.b .get),.ae 4,.aN (.int 1),.neg,.cj false (.b .get) 2,.cj true (.o 16 40) 3,.ae 3,.bi 7,.ae 4,.hl]
noncomputable def Zd:aJ:=[.ae 1,.ae 0,.bi 16,.call false 49 1,.cmp .Lt,.cf [.ae 0,.bi 16,.ae 1,.sub,.st (.one 2),.ae 1,.ints,.aN (.int 1),.ints,.bin .Add,.st (.one 1),.aN (.bool false),.ae 0,.bi 17,.ae 2,.hl,.ae 0,.bi 11,.ae 2,.sub,.st (.one 3),.ae 3,.cG (.o 5 38),.ae 0,.bi 10,.ae 0,.bi 10,.ae 3,.bi 3,.ae 0,.bi 13,.ae 0,.bi 14,.call false 7 4,.cj true (.o 5 38) 2,.pop,.ae 0,.bi 10,.ae 3,.bi 6,.call false 8 2,.each (.tup [4,5]) Zc] [.brk]]
noncomputable def ML:aJ:=[.aN (.int 0),.st (.one 1),.loop Zd]
noncomputable def MM:aJ:=[.ae 0,.bi 24,.call true 49 1,.ret]
noncomputable def MN:aJ:=[.ae 1,.ae 0,.bi 25,.cmp .Lt,.ret]
noncomputable def MO:aJ:=[.ae 0,.bi 30,.ae 1,.sub,.call true 51 1,.ret]
noncomputable def MP:aJ:=[.ae 0,.bi 31,.ae 1,.sub,.ae 2,.bin .Add,.ret]
noncomputable def MQ:aJ:=[.ae 0,.bi 32,.ae 1,.sub,.ret]
noncomputable def MR:aJ:=[.ae 1,.ae 0,.bi 31,.ae 0,.bi 32,.ae 1,.sub,.sub,.bin .Sub,.ret]
noncomputable def MS:aJ:=[.ae 0,.bi 26,.ae 0,.bi 32,.ae 1,.sub,.sub,.bi 19,.st (.one 2),.ae 1,.ae 0,.bi 31,.ae 0,.bi 32,.ae 1,.sub,.sub,.bin .Sub,.st (.one 3),.ae 3,.ae 2,.call false 49 1,.cmp .Lt,.cf [.ae 2,.ae 3,.sub] [.aN (.int 1),.neg],.ret]
noncomputable def Ze:aJ:=[.ae 6,.bi 4,.ae 7,.tup 2,.st (.one 8),.ae 5,.cG (.b .get),.ae 8,.aN (.int 0),.cj false (.b .get) 2,.ae 6,.bi 6,.ae 7,.sub,.bin .BitOr,.ae 5,.ae 8,.hl]
noncomputable def MT:aJ:=[.ae 6,.bi 6,.each (.one 7) Ze]
noncomputable def MU:aJ:=[.ae 6,.bi 7,.ae 12,.sub,.st (.one 13),.ae 13,.ae 9,.aN (.int 1),.bin .Add,.cmp .Gt,.cf [.aN (.bool false),.ret] [.ae 4,.bi 11,.ae 13,.sub,.bi 5,.ae 12,.cmp .NotEq,.cf [.aN (.bool false),.ret] []],.ae 9,.ae 13,.call true 57 2,.st (.one 9)]
noncomputable def MV:aJ:=[.ae 4,.bi 11,.ae 11,.sub,.st (.one 6),.ae 6,.bi 2,.ae 11,.cmp .NotEq,.cf [.aN (.bool false),.ret] [.ae 6,.ae 2,.call false 27 2,.cf [] [.aN (.bool false),.ret]],.ae 6,.bi 4,.call false 49 1,.aN (.int 1),.cmp .Eq,.cf [.ae 10,.cG (.b .append),.ae 6,.bi 4,.cj true (.b .append) 1,.pop] [],.ae 6,.bi 7,.each (.one 12) MU]
noncomputable def MW:aJ:=[.ae 20,.bi 6,.ae 7,.sub,.st (.one 21),.ae 19,.bi 6,.ae 7,.sub,.ae 21,.bin .BitOr,.ae 21,.cmp .NotEq,.cf [.aN (.bool false),.ret] [.ae 21,.ae 5,.ae 20,.bi 4,.ae 7,.tup 2,.sub,.bin .BitOr,.ae 5,.ae 20,.bi 4,.ae 7,.tup 2,.sub,.cmp .NotEq,.cf [.aN (.bool false),.ret] []]]
noncomputable def MX:aJ:=[.ae 19,.bi 7,.ae 12,.sub,.ae 20,.bi 7,.ae 12,.sub,.tup 2,.st (.one 13),.ae 13,.ae 15,.cmp .NotIn,.cf [.aN (.bool true),.ae 15,.ae 13,.hl,.ae 14,.cG (.b .append),.ae 13,.cj true (.b .append) 1,.pop] []]
noncomputable def MY:aJ:=[.ae 16,.ae 14,.call false 49 1,.cmp .Lt,.cf [.ae 14,.ae 16,.sub,.st (.tup [17,18]),.ae 16,.aN (.int 1),.bin .Add,.st (.one 16),.ae 3,.bi 11,.ae 17,.sub,.st (.one 19),.ae 4,.bi 11,.ae 18,.sub,.st (.one 20),.ae 19,.bi 4,.ae 20,.bi 4,.cmp .NotEq,.cf [.aN (.bool false),.ret] [.ae 19,.bi 6,.call false 54 1,.ae 20,.bi 6,.call false 54 1,.cmp .NotEq,.cf [.aN (.bool false),.ret] []],.ae 19,.bi 6,.each (.one 7) MW,.ae 19,.bi 7,.call false 54 1,.ae 20,.bi 7,.call false 51 1,.cmp .NotEq,.cf [.aN (.bool false),.ret] [],.ae 20,.bi 7,.each (.one 12) MX] [.brk]]
noncomputable def xV:aJ:=[.ae 0,.aN .none,.aN (.int 24),.slice,.comp (.one 0) 1 [] [.ae 0,.call false 55 1,.aN (.int 999983),.bin .Mod],.st (.one 1),.ae 1,.list 0,.cmp .Eq,.cf [.aN (.int 0),.list 1,.st (.one 1)] [],.ae 1,.call false 26 1,.cf [] [.aN (.bool false),.ret],.ae 1,.call false 24 1,.call true 22 1,.st (.one 2),.ae 2,.call true 10 1,.st (.one 3),.ae 2,.call true 18 1,.st (.one 4),.iE,.st (.one 5),.ae 3,.bi 11,.each (.one 6) MT,.aN (.int 0),.st (.one 9),.list 0,.st (.one 10),.ae 4,.bi 11,.call false 49 1,.call false 50 1,.each (.one 11) MV,.ae 9,.aN (.int 1),.bin .Add,.ae 4,.bi 11,.call false 49 1,.cmp .NotEq,.cf [.aN (.bool false),.ret] [.ae 10,.call false 49 1,.ae 10,.call false 58 1,.call false 49 1,.cmp .NotEq,.cf [.aN (.bool false),.ret] [.ae 4,.bi 11,.aN (.int 0),.sub,.bi 5,.aN (.int 1),.neg,.cmp .NotEq,.cf [.aN (.bool false),.ret] []]],.aN (.int 0),.aN (.int 0),.tup 2,.list 1,.st (.one 14),.iE,.aN (.int 0),.aN (.int 0),.tup 2,.aN (.bool true),.sU,.st (.one 15),.aN (.int 0),.st (.one 16),.loop MY,.ae 2,.call false 28 1,.gc true [.ae 4,.call false 12 1,.list 0,.cmp .Eq,.gc false [.ae 3,.call false 13 1,.not]],.ret]
noncomputable def Zf:lI:={name:="",qualname:="",params:=⟨[],[],none,[],[],none,[]⟩,body:= .stmts [],scope:={kind:= .function,names:=[],isGenerator:=false,isCoroutine:=false},globals:=ib,closure:=[],defaults:= .none,kwdefaults:= .none,doc:= .none,pyModule:= .none,annotations:=none,code:= .none,closureTuple:= .none,builtins:=zv}
noncomputable def dX (K:dt) (a:ak):lI:=match K.lookup a with | some ⟨_,_,.func fd,_⟩=>fd | _=>Zf
noncomputable def jI (K:dt) (a:ak):List fT:=match (dX K a).body with | .stmts b=>b | _=>[]
noncomputable def i2 (K:dt) (a:ak):bZ:=(dX K a).params.args.map (·.arg)
noncomputable def MZ (K:dt) (a:ak):cH:=match (dX K a).defaults with | .ref t=>(match K.lookup t with | some ⟨_,_,.seq items _,_⟩=>items.toList | _=>[]) | _=>[]
noncomputable def isFn:Data->Bool
 | .func _=>true
 | _=>false
theorem Zg {d:Data} (h:isFn d=true):∃fd,d= .func fd:=by cases d<;>first | exact ⟨_,rfl⟩ | exact zM h
noncomputable def FB (K:dt) (a:ak):Bool:=(K.lookup a).any λ o=>isFn o.data
noncomputable def M0:FuncBody->Bool
 | .stmts _=>true
 | _=>false
noncomputable def M1 (K:dt) (a:ak) (m:Nat):Bool:=
 FB K a&&M0 (dX K a).body&&(dX K a).closure.isEmpty&&(dX K a).globals==ib&&(dX K a).builtins==zv&&codeIn K (dX K a).code (dX K a).qualname&&(dX K a).scope.kind== .function&& !(dX K a).scope.isCoroutine&& !(dX K a).scope.isGenerator&&
 decide ((bq.of (dX K a).scope).names.Nodup/\ (∀x∈(bq.of (dX K a).scope).names,(dX K a).scope.names.lookup x=some .local∨(dX K a).scope.names.lookup x=some .cell)/\ (∀p∈(dX K a).scope.names,p.2= .cell->p.1∈(bq.of (dX K a).scope).names/\ (dX K a).scope.names.lookup p.1=some .cell)/\
  (bq.of (dX K a).scope).names.take (i2 K a).length=i2 K a/\ (bq.of (dX K a).scope).names.length=(i2 K a).length+m)
noncomputable def vp:cH->aV->Bool
 | [],[]=>true
 | .int i _::vs,.int j::as=>i==j&&vp vs as
 | .none::vs,.none::as=>vp vs as
 | _,_=>false
theorem FC {G:aP->aE} {h:a3}:∀{as:aV},vp vs as=true->dQ G h vs as:=by
 induction vs with
 | nil=>intro as e;cases as with | nil=>exact .nil | cons a as=>exact absurd e fS
 | cons v vs ih=>
  intro as e;cases as with
  | nil=>cases v<;>exact absurd e fS
  | cons a as=>
   cases v<;>try exact absurd e fS
   all_goals cases a<;>try exact absurd e fS
   ·exact .cons .none (ih e)
   ·have e:=d6.mp e;exact ed e.1▸.cons (.int _ _) (ih e.2)
theorem Zh:∀{bu rest:bZ} {as:aV},(bu++rest).Nodup->as.length=bu.length->oM (bu++rest) bu as=as.map some++eQ rest.length none:=by
 intro bu
 induction bu with
 | nil=>
  intro rest as _ c;obtain rfl:=wi c;exact (List.map_const (l:=rest) (b:=(none:Option ai)))
 | cons p bu ih=>
  intro rest as d c;cases as with
  | nil=>exact (by cases c)
  | cons a as=>
   have d:=kP.mp d;refine agM.mpr ⟨?_,(kf λ x f=> ?_).trans (ih d.2 (wx c))⟩
   ·show ((p,a)::bu.zip as).lookup p=_;rw [uD,beq_self_eq_true]
   ·show ((p,a)::bu.zip as).lookup x=_;rw [uD,show (x==p)=false from beq_eq_false_iff_ne.mpr λ e=>d.1 (e▸f)]
noncomputable def p2 (K:dt) (a:ak) (kB:aV):cH:=(MZ K a).drop ((MZ K a).length - kB.length)
structure oN where
 a:Nat
 n:Nat
 m:Nat
 ds:aV
 code:aJ
noncomputable def lX:List oN:=[⟨68,1,3,[],Mj⟩,⟨73,2,10,[],Mk⟩,⟨80,1,0,[],Ml⟩,⟨87,3,2,[],Mm⟩,⟨94,1,6,[],Mn⟩,⟨169,4,10,[],Mp⟩,⟨174,2,4,[],Mq⟩,⟨181,1,0,[],Mr⟩,⟨189,1,9,[.int 2000],Ms⟩,⟨196,2,5,[],Mt⟩,⟨203,1,4,[],Mu⟩,⟨210,1,0,[],Mv⟩,⟨217,2,3,[],Mw⟩,⟨222,2,0,[],Mx⟩,⟨269,2,9,[],My⟩,⟨277,1,1,[.int 2000],xU⟩,⟨277,2,1,[],xU⟩,⟨389,2,2,[],Mz⟩,⟨395,1,9,[.none],MA⟩,⟨403,3,1,[],MB⟩,⟨408,1,9,[],MC⟩,⟨413,1,0,[],MD⟩,⟨418,1,7,[],MF⟩,⟨423,2,3,[],MG⟩,⟨106,4,0,[],Fw⟩,⟨134,3,0,[],Fx⟩,⟨236,3,0,[],Fy⟩,⟨293,5,0,[.none,.int 0,.int 0],Fz⟩,⟨312,7,1,[],FA⟩,⟨113,3,2,[],MH⟩,⟨243,3,2,[],MI⟩,⟨248,4,5,[],MK⟩,⟨255,1,5,[],ML⟩,⟨319,1,0,[],MM⟩,⟨326,2,0,[],MN⟩,⟨347,2,0,[],MO⟩,⟨354,3,0,[],MP⟩,⟨361,2,0,[],MQ⟩,⟨368,2,0,[],MR⟩,⟨375,2,2,[],MS⟩,⟨435,1,21,[],xV⟩]
noncomputable def tn:List oN:=[⟨36,2,0,[.none],[]⟩,⟨43,1,0,[],[]⟩,⟨430,1,1,[],[]⟩]
noncomputable def M3 (K:dt) (t:oN):Bool:=M1 K t.a t.m&&vp (p2 K t.a t.ds) t.ds&&t.n+t.ds.length==(i2 K t.a).length
noncomputable def xW (n:Nat) (x:Nat->aE):cH:=(cg n).map x
noncomputable def FD (K:dt) (S:Setting) (x:Nat->aE) (t:oN):Option (cH×Bool):=(peek K S (bindArgs (dX K t.a) ⟨xW t.n x,[]⟩)).map λ l=>((l.map (·.2)).take t.n,l.map (·.1)==i2 K t.a&&(l.map (·.2)).drop t.n==p2 K t.a t.ds)
noncomputable def nL (K:dt) (C i:aP):Bool:=makesIn K (adr C)&&findIn K (.ref (adr C)) "__init__"==some (some (.ref (adr i)))&&oe K (.ref (adr i))==some (.type "function")
noncomputable def FE (K:dt):Bool:=nL K .hj .z7&&nL K .kW .z8&&nL K .jD .z9&&nL K .iy .Aa&&nL K .fq .Ab
noncomputable def codeAt (a:dR W) (kA:rB W) (r:Nat) (K:dt) (t:oN):Option aJ:=(rC a kA r (bq.of (dX K t.a).scope) (jI K t.a)).map λ x=>x.f []
noncomputable abbrev xX (K:dt):Prop:=jC (xT K) ((lX++tn).all (M3 K)=true) (∀S x,(lX++tn).map (FD K S x)=(lX++tn).map λ t=>some (xW t.n x,true)) (∀{W:a0} (a:dR W) (kA:rB W) r,lX.map (codeAt a kA r K)=lX.map λ t=>some t.code) (FE K=true)
structure Base (W:a0) (P:eg):Prop where
 lY:dR W
 k:xX W.K
 g:W.G=gu
 gl:W.gl=ib
 rs:rB W
theorem Base.ge {P:eg} (B:Base W P):∃c,W.G .jE= .ref c:=⟨59,congrFun B.g _⟩
noncomputable abbrev M4 (K:dt) (t:oN):Prop:=iV (M1 K t.a t.m=true) (∀vs:cH,vs.length=t.n->∀S,peek K S (bindArgs (dX K t.a) ⟨vs,[]⟩)=some ((i2 K t.a).zip (vs++p2 K t.a t.ds))) (vp (p2 K t.a t.ds) t.ds=true) (t.n+t.ds.length=(i2 K t.a).length)
theorem M5 (vs:cH):xW vs.length (λ i=>vs.getD i .none)=vs:=by
 unfold xW;refine uv (by rw [cz,gy]) λ i J a=> ?_
 rw [sD,De,eS,c4 a];rfl
theorem Zi {α β:Type}:∀l:List (α×β),l=(l.map (·.1)).zip (l.map (·.2)):=by
 intro l
 induction l with
 | nil=>
  exact rfl
 | cons _ l ih=>
  exact congrArg (List.cons _) (ih)
theorem xX.Bi (g:xX K) {t:oN} (h:t∈lX++tn):M4 K t:=by
 have r:=d6.mp (kT.mp g.2 t h);have a:=d6.mp r.1;refine ⟨a.1,λ vs c S=> ?_,a.2,ed r.2⟩;have b:=ah6.mp (g.3 S λ i=>vs.getD i .none) t h;rewrite [<- c,M5] at b;unfold FD at b;rewrite [<- c,M5] at b;obtain ⟨l,f,d⟩:=iv.mp b;have e:=d6.mp (congrArg pz d)
 (rewrite [f,Zi l,ed e.1,<- wF vs.length (l.map (·.2)),ed e.2,show (l.map (·.2)).take vs.length=vs from congrArg m8 d];try (with_reducible rfl))
theorem Zj {a:ak} (h:FB K a=true):∃o,K.lookup a=some o∧o.data= .func (dX K a):=by
 unfold FB at h;unfold dX;cases e:K.lookup a with
 | none=>rw [e] at h;exact zM h
 | some o=>
  rw [e] at h;obtain ⟨fd,q⟩:=Zg h;obtain ⟨c,d,b,z⟩:=o;exact ⟨_,rfl,by rw [show b= .func fd from q]⟩
theorem Zk {a:ak} (h:M0 (dX K a).body=true):(dX K a).body= .stmts (jI K a):=by
 unfold jI;revert h;cases (dX K a).body with
 | stmts b=>exact λ _=>rfl
 | _=>exact λ h=>zM h
section
variable {W:a0} {P:eg}
theorem Bj (X:W.K.In W.h0) (j:W.gl=ib) {t:oN} (T:M4 W.K t):rE W t.a (dX W.K t.a) (jI W.K t.a) (i2 W.K t.a) t.n (p2 W.K t.a t.ds):=by
 have h:=d6.mp T.1;have J:=d6.mp h.1;have a:=d6.mp J.1;have b:=d6.mp a.1;have c:=d6.mp b.1;have d:=d6.mp c.1;have f:=d6.mp d.1;have g:=d6.mp f.1;have i:=d6.mp g.1;have D:=of_decide_eq_true h.2;obtain ⟨o,aD⟩:=Zj i.1;exact ⟨⟨o,X t.a o aD.1,aD.2⟩,Zk i.2,List.isEmpty_iff.mp g.2,(ed f.2).trans j.symm,ed d.2,codeRec_of X c.2,ed b.2,zL _▸a.2,zL _▸J.2,D.1,D.2.1,(λ p m e=>⟨(D.2.2.1 p m e).1,(D.2.2.1 p m e).2⟩),(D.2.2.2.1▸D.1.sublist (List.take_sublist ..):(i2 W.K t.a).Nodup),λ p k=>D.2.1 p (Dm (D.2.2.2.1.symm▸k)),((FC (G:=gu) (h:=W.h0) T.3).length:(p2 W.K t.a t.ds).length=t.ds.length).symm▸T.4,T.2⟩
theorem M6 (B:Base W P) {t:oN} (b8:t∈lX) {E:ag->Prop} (a:as.length=t.n) (v:runs W r E t.code [] ((as++t.ds).map some++eQ t.m none) H (jH Q)):Bg W (r+1) (.ref t.a) as H Q E:=by
 have T:=B.k.Bi (f9 _ b8);have F:=Bj B.lY.6.3 B.gl T;obtain ⟨x,b,ex⟩:=iv.mp (ah6.mp (B.k.4 B.lY B.rs r) t b8);have D:=(of_decide_eq_true (d6.mp T.1).2).2.2.2;refine Yq B.lY B.ge F ⟨x.f,x.ok,ex⟩ (FC T.3) a ?_;have e:(i2 W.K t.a)++(bq.of (dX W.K t.a).scope).names.drop (i2 W.K t.a).length=(bq.of (dX W.K t.a).scope).names:=(congrArg (· ++(bq.of (dX W.K t.a).scope).names.drop (i2 W.K t.a).length) D.1.symm).trans (wF ..);have l:=Zh (rest:=(bq.of (dX W.K t.a).scope).names.drop (i2 W.K t.a).length) (as:=as++t.ds) (e.symm▸F.6.5) (by rw [cI,a];exact T.4)
 rw [e,ah7,D.2,ah8] at l;exact l.symm▸v
abbrev eJ (W:a0) (P:eg) (g:aP) (as:aV) (code:aJ) (l:List (Option ai)):Prop:=∀{r:Nat} {H:ag} {Q:KE} {E:ag->Prop},Base W P->runs W r E code [] l H (jH Q)->dw W (r+1) g as H Q E
theorem eK (i:Nat) {g:aP} {t:oN} {E:ag->Prop} (b8:lX[i]? =some t) (d:gu g= .ref t.a) (e:as.length=t.n) (B:Base W P) (v:runs W r E t.code [] ((as++t.ds).map some++eQ t.m none) H (jH Q)):dw W (r+1) g as H Q E:=λ A fr s vs a b c=>
 (show W.G g= .ref _ from (congrFun B.g g).trans d)▸M6 B (cY b8) e v A fr s vs a b c
theorem Zl:eJ W P .bits [bo] Mj [some bo,none,none,none]:=λ B v=>eK 0 rfl rfl rfl B v
theorem Zm:eJ W P .spread [bo,a1] Mk [some bo,some a1,none,none,none,none,none,none,none,none,none,none]:=λ B v=>eK 1 rfl rfl rfl B v
theorem Zn:eJ W P .DL [bo] Ml [some bo]:=λ B v=>eK 2 rfl rfl rfl B v
theorem Zo:eJ W P .z6 [bo,a1,a2] Mm [some bo,some a1,some a2,none,none]:=λ B v=>eK 3 rfl rfl rfl B v
theorem Zp:eJ W P .DM [bo] Mn [some bo,none,none,none,none,none,none]:=λ B v=>eK 4 rfl rfl rfl B v
theorem Zq:eJ W P .DN [bo,a1,a2,bA] Mp [some bo,some a1,some a2,some bA,none,none,none,none,none,none,none,none,none,none]:=λ B v=>eK 5 rfl rfl rfl B v
theorem Zr:eJ W P .DO [bo,a1] Mq [some bo,some a1,none,none,none,none]:=λ B v=>eK 6 rfl rfl rfl B v
theorem Zs:eJ W P .DP [bo] Mr [some bo]:=λ B v=>eK 7 rfl rfl rfl B v
theorem Zt:eJ W P .Jn [bo] Ms [some bo,some (.int 2000),none,none,none,none,none,none,none,none,none]:=λ B v=>eK 8 rfl rfl rfl B v
theorem Zu:eJ W P .clashes [bo,a1] Mt [some bo,some a1,none,none,none,none,none]:=λ B v=>eK 9 rfl rfl rfl B v
theorem Zv:eJ W P .Jo [bo] Mu [some bo,none,none,none,none]:=λ B v=>eK 10 rfl rfl rfl B v
theorem Zw:eJ W P .Jp [bo] Mv [some bo]:=λ B v=>eK 11 rfl rfl rfl B v
theorem Zx:eJ W P .DQ [bo,a1] Mw [some bo,some a1,none,none,none]:=λ B v=>eK 12 rfl rfl rfl B v
theorem Zy:eJ W P .DR [bo,a1] Mx [some bo,some a1]:=λ B v=>eK 13 rfl rfl rfl B v
theorem Zz:eJ W P .numbered [bo,a1] My [some bo,some a1,none,none,none,none,none,none,none,none,none]:=λ B v=>eK 14 rfl rfl rfl B v
theorem ZA:eJ W P .om [bo] xU [some bo,some (.int 2000),none]:=λ B v=>eK 15 rfl rfl rfl B v
theorem ZC:eJ W P .om [bo,a1] xU [some bo,some a1,none]:=λ B v=>eK 16 rfl rfl rfl B v
theorem ZD:eJ W P .DS [bo,a1] Mz [some bo,some a1,none,none]:=λ B v=>eK 17 rfl rfl rfl B v
theorem ZE:eJ W P .Jq [bo] MA [some bo,some (.none),none,none,none,none,none,none,none,none,none]:=λ B v=>eK 18 rfl rfl rfl B v
theorem ZF:eJ W P .Jr [bo,a1,a2] MB [some bo,some a1,some a2,none]:=λ B v=>eK 19 rfl rfl rfl B v
theorem ZG:eJ W P .Js [bo] MC [some bo,none,none,none,none,none,none,none,none,none]:=λ B v=>eK 20 rfl rfl rfl B v
theorem ZH:eJ W P .DT [bo] MD [some bo]:=λ B v=>eK 21 rfl rfl rfl B v
theorem ZI:eJ W P .Jt [bo] MF [some bo,none,none,none,none,none,none,none]:=λ B v=>eK 22 rfl rfl rfl B v
theorem ZJ:eJ W P .DU [bo,a1] MG [some bo,some a1,none,none,none]:=λ B v=>eK 23 rfl rfl rfl B v
theorem ZK:eJ W P .z7 [bo,a1,a2,bA] Fw [some bo,some a1,some a2,some bA]:=λ B v=>eK 24 rfl rfl rfl B v
theorem ZL:eJ W P .z8 [bo,a1,a2] Fx [some bo,some a1,some a2]:=λ B v=>eK 25 rfl rfl rfl B v
theorem ZM:eJ W P .z9 [bo,a1,a2] Fy [some bo,some a1,some a2]:=λ B v=>eK 26 rfl rfl rfl B v
theorem ZN:eJ W P .Aa [bo,a1,a2,bA,cW] Fz [some bo,some a1,some a2,some bA,some cW,some (.none),some (.int 0),some (.int 0)]:=λ B v=>eK 27 rfl rfl rfl B v
theorem ZO {a b:ai}:eJ W P .Ab [bo,a1,a2,bA,cW,a,b] FA [some bo,some a1,some a2,some bA,some cW,some a,some b,none]:=λ B v=>eK 28 rfl rfl rfl B v
theorem ZP:eJ W P .Ac [bo,a1,a2] MH [some bo,some a1,some a2,none,none]:=λ B v=>eK 29 rfl rfl rfl B v
theorem ZQ:eJ W P .w2 [bo,a1,a2] MI [some bo,some a1,some a2,none,none]:=λ B v=>eK 30 rfl rfl rfl B v
theorem ZR:eJ W P .DW [bo,a1,a2,bA] MK [some bo,some a1,some a2,some bA,none,none,none,none,none]:=λ B v=>eK 31 rfl rfl rfl B v
theorem ZS:eJ W P .DX [bo] ML [some bo,none,none,none,none,none]:=λ B v=>eK 32 rfl rfl rfl B v
theorem ZT:eJ W P .Ad [bo] MM [some bo]:=λ B v=>eK 33 rfl rfl rfl B v
theorem ZU:eJ W P .Ae [bo,a1] MN [some bo,some a1]:=λ B v=>eK 34 rfl rfl rfl B v
theorem ZV:eJ W P .uL [bo,a1] MO [some bo,some a1]:=λ B v=>eK 35 rfl rfl rfl B v
theorem ZW:eJ W P .w3 [bo,a1,a2] MP [some bo,some a1,some a2]:=λ B v=>eK 36 rfl rfl rfl B v
theorem ZX:eJ W P .Af [bo,a1] MQ [some bo,some a1]:=λ B v=>eK 37 rfl rfl rfl B v
theorem ZY:eJ W P .Ag [bo,a1] MR [some bo,some a1]:=λ B v=>eK 38 rfl rfl rfl B v
theorem ZZ:eJ W P .Ah [bo,a1] MS [some bo,some a1,none,none]:=λ B v=>eK 39 rfl rfl rfl B v
theorem Z0 (B:Base W P) {r:Nat} {E:ag->Prop} (v:runs W r E xV [] [some bo,none,none,none,none,none,none,none,none,none,none,none,none,none,none,none,none,none,none,none,none,none] H (jH Q)):Bg W (r+1) (.ref 435) [bo] H Q E:=M6 (t:=⟨435,1,21,[],xV⟩) B (cY (i:=40) rfl) rfl v
theorem xZ (B:Base W P) {C i:aP} (J:C.q1=true) (d:gu C= .ref (adr C)) (e:gu i= .ref (adr i)) (h:nL W.K C i=true):tm W C i:=
 fc h λ h c=>fc h λ a b=>⟨J,adr C,adr i,(congrFun B.g C).trans d,(congrFun B.g i).trans e,a,ed b,ed c⟩
theorem x1 (h:FE K=true):nL K .hj .z7=true∧nL K .kW .z8=true∧nL K .jD .z9=true∧nL K .iy .Aa=true∧nL K .fq .Ab=true:=fc h λ h e=>fc h λ h d=>fc h λ h c=>fc h λ a b=>⟨a,b,c,d,e⟩
theorem Z1 (B:Base W P):tm W .hj .z7:=xZ B rfl rfl rfl (x1 B.k.5).1
theorem Z2 (B:Base W P) {E:ag->Prop} (v:∀x,H x=none->runs W r E Fw [] [some (.ref x),some bo,some a1,some a2] (H.upd x (.inst .hj p1)) (jH λ v aa=>v= .none∧Q (.ref x) aa)):dw W (r+2) .hj [bo,a1,a2] H Q E:=
 zS B.lY (Z1 B) λ x a=>ZK B (v x a)
theorem Z3 (B:Base W P):tm W .kW .z8:=xZ B rfl rfl rfl (x1 B.k.5).2.1
theorem Z4 (B:Base W P) {E:ag->Prop} (v:∀x,H x=none->runs W r E Fx [] [some (.ref x),some bo,some a1] (H.upd x (.inst .kW p1)) (jH λ v aa=>v= .none∧Q (.ref x) aa)):dw W (r+2) .kW [bo,a1] H Q E:=
 zS B.lY (Z3 B) λ x a=>ZL B (v x a)
theorem Z5 (B:Base W P):tm W .jD .z9:=xZ B rfl rfl rfl (x1 B.k.5).2.2.1
theorem Z6 (B:Base W P) {E:ag->Prop} (v:∀x,H x=none->runs W r E Fy [] [some (.ref x),some bo,some a1] (H.upd x (.inst .jD p1)) (jH λ v aa=>v= .none∧Q (.ref x) aa)):dw W (r+2) .jD [bo,a1] H Q E:=
 zS B.lY (Z5 B) λ x a=>ZM B (v x a)
theorem Z7 (B:Base W P):tm W .iy .Aa:=xZ B rfl rfl rfl (x1 B.k.5).2.2.2.1
theorem Z8 (B:Base W P) {E:ag->Prop} (v:∀x,H x=none->runs W r E Fz [] [some (.ref x),some bo,some a1,some a2,some bA,some (.none),some (.int 0),some (.int 0)] (H.upd x (.inst .iy p1)) (jH λ v aa=>v= .none∧Q (.ref x) aa)):dw W (r+2) .iy [bo,a1,a2,bA] H Q E:=
 zS B.lY (Z7 B) λ x a=>ZN B (v x a)
theorem Z9 (B:Base W P):tm W .fq .Ab:=xZ B rfl rfl rfl (x1 B.k.5).2.2.2.2
theorem γ (B:Base W P) {a:ai} {E:ag->Prop} (v:∀x,H x=none->runs W r E FA [] [some (.ref x),some bo,some a1,some a2,some bA,some cW,some a,none] (H.upd x (.inst .fq p1)) (jH λ v aa=>v= .none∧Q (.ref x) aa)):dw W (r+2) .fq [bo,a1,a2,bA,cW,a] H Q E:=
 zS B.lY (Z9 B) λ x b=>ZO B (v x b)
end
end
section
inductive FF (o:dq) (C:ak) (bm:cH):Prop
 | mk (is:∃nm q N bs hdct sn sub ab col dd k0 k1 k2 k3 k5,o=pA nm q C N bs bm hdct sn sub ab col dd k0 k1 k2 k3 k5 "Exception.__new__")
noncomputable def Bk (K:dt) (C:ak) (bm:cH):Bool:=((wO K C).any λ a=>a.mro== .ref C::bm&& !a.hasDel)&&(K.lookup C).any λ o=>o.cls== .type "type"&&o.slots.size==6&&o.slots[4]? ==some (some (.builtin "Exception.__new__"))
theorem vq {l:List (Option aE)} (h:l.length=n+1):l=l.headD none::l.tail∧l.tail.length=n:=by
 cases l with
 | nil=>exact (by cases h)
 | cons a t=>exact ⟨rfl,wx h⟩
theorem δ {l:List (Option aE)} (h:l.length=6):hi λ a b c=>hi λ d e f=>l=[a,b,c,d,e,f]:=
 have g:=vq h;have t2:=vq g.2;have i:=vq t2.2;have j:=vq i.2;have k:=vq j.2;have m:=vq k.2
 ⟨_,_,_,_,_,_,g.1.trans (congrArg _ (t2.1.trans (congrArg _ (i.1.trans (congrArg _ (j.1.trans (congrArg _ (k.1.trans (congrArg _ (m.1.trans (congrArg _ (wi m.2))))))))))))⟩
theorem ε {c:aE} {dd:Option ak} {a:ClassData} {cZ:Array (Option aE)} {C:ak} {bm:cH} (J:a.mro= .ref C::bm) (d:a.hasDel=false) (f:c= .type "type") (g:cZ.toList.length=6) (b:cZ.toList[4]? =some (some (.builtin "Exception.__new__"))):FF ⟨c,dd,.cls a,cZ⟩ C bm:=by
 obtain ⟨k0,k1,k2,k3,h,k5,e⟩:=δ g;rw [e] at b;have e:cZ= #[k0,k1,k2,k3,some (.builtin "Exception.__new__"),k5]:=SF.mp (e.trans (dA b▸rfl));subst f e;exact ⟨a.name,a.qualname,a.ns,a.bases,a.hasDict,a.slotNames,a.subclasses,a.abstract,a.collection,dd,k0,k1,k2,k3,k5,congrArg (λ x=>(⟨.type "type",dd,.cls x,_⟩:dq)) (J▸d▸rfl)⟩
theorem ζ {C:ak} {bm:cH} (h:Bk K C bm=true):∃o,K.lookup C=some o∧FF o C bm:=by
 unfold Bk wO at h;cases e:K.lookup C with
 | none=>rw [e] at h;exact absurd h fS
 | some o=>
  rw [e] at h;refine ⟨o,rfl,?_⟩;obtain ⟨c,dd,f,cZ⟩:=o;cases f with
  | cls g=>
   have J:=d6.mp h;have a:=d6.mp (show (_&&_)=true from J.1);have b:=d6.mp (show (_&&_)=true from J.2);have d:=d6.mp b.1;exact ε (ed a.1) ((zL _).mp a.2) (ed d.1) (ed d.2) (jz▸ed b.2)
  | _=>exact absurd h fS
section
variable {prog:gi} {w:fp} {A:c8} {E:cA} {h:a3} {g:Array zH} {d:Drawn} {t:Nat} {os:oc}
variable {nm q:aW} {C N dy:ak} {bs bm:cH} {hdct:Bool} {sn:bZ} {sub:cH} {ab:Bool} {col:Option Bool} {dd:Option ak} {k0 k1 k2 k3 k5:Option aE}
noncomputable def hq (dy:ak):cH:=[.ref dy,.type "Exception",.type "BaseException",.type "object"]
theorem rF (n:String) (b:Bool) (a:[wG "Exception",.type "BaseException",.type "object"].contains (.type n)=b):(kQ C::hq dy).contains (.type n)=b:=by
 rw [To,show (wG n==kQ C)=false from rfl,Tp];unfold hq;rw [To,show (wG n==kQ dy)=false from rfl,Tp];exact a
theorem η {M:wC} {Q:Unit->a4->Prop} (a:h.get? C=some (pA nm q C N bs (hq dy) hdct sn sub ab col dd k0 k1 k2 k3 k5 "Exception.__new__"))
  (c:Q () ⟨h,g,d,t,os⟩):aR M A (zT "Exception.__new__" ⟨.ref C::rest,[]⟩) Q E ⟨h,g,d,t,os⟩:=by
 have b:=Dy;have e:=b.noStar;unfold zT;rw [b.newKind,b.newSplit,b.newRow];dsimp only
 repeat (first | refine qK a ?_ | (refine zU a ?_;rw [(rF (C:=C) (dy:=dy) "Exception" true (by decide+kernel))]) | refine wpAny_staticBase_exc a ?_ | refine wpAny_madeBy_exc a ?_ | simp only [bne_self_eq_false,zA,if_false] | wp_step)
 exact c
theorem θ {R:ps->a4->Prop} (b:h.get? C=some (pA nm q C N bs (hq dy) hdct sn sub ab col dd k0 k1 k2 k3 k5 "Exception.__new__"))
  (c:R (.ok (.ret (.ref (h.objs.size+1)))) ⟨(h.push {cls:= .type "tuple",data:= .seq rest.toArray}).push
   {cls:= .ref C,data:= .fields #[.ref h.objs.size,.none,.none,.none,.bool false,.none]},g,d,t,os⟩) (hrest:rest.length<=sx:=by size_fits):
  jc (aX prog w) A (.builtin "Exception.__new__" ⟨.ref C::rest,[]⟩) R ⟨h,g,d,t,os⟩:=by
 have a:=Dy;have e:=a.ends;refine codeAny_builtinAt a.entry ?_;unfold Builtin.«BaseException.__new__»;refine ah9 ?_;show PySem.wpAt _ _ _ (stack>>=_) _ _ _;refine ah9 (PySem.wpAt_stack λ p f=>aia ?_)
 wp_walk
 refine aia ?_;rw [a.owner]
 repeat (first | with_reducible refine wpAny_madeHere_exc a.canon b ?_ | with_reducible refine qK b ?_ | (with_reducible refine zU b ?_;first | rw [(rF (C:=C) (dy:=dy) "Exception" true (by decide+kernel))] | rw [(rF (C:=C) (dy:=dy) "AttributeError" false (by decide+kernel))] | rw [(rF (C:=C) (dy:=dy) "NameError" false (by decide+kernel))]) | wp_step)
 show R _ _;rw [Tc];exact c
theorem ι {hY:ak} {Q:Fin->a4->Prop} (a:h.get? C=some (pA nm q C N bs (hq dy) hdct sn sub ab col dd k0 k1 k2 k3 k5 "Exception.__new__"))
  (X:K.In h) (j:findIn K (.ref C) "__init__"=some (some (.ref hY))) (k:oe K (.ref hY)=some (.type "function"))
  (l:∀h' e,aib h h' e (.ref C) rest->
   aR (aX prog w) A (call (.ref hY) (.ref e::rest)) (λ r s'=>r= .none∧Q (.done (.ret (.ref e))) s') E ⟨h',g,d,t,os⟩) (hrest:rest.length<=sx:=by size_fits):
  aR (aX prog w) A (Builtin.«type.__call__» ⟨.ref C::rest,[]⟩) Q E ⟨h,g,d,t,os⟩:=by
 repeat (first | with_reducible refine qK a ?_ | with_reducible refine wpAny_madeBy_exc a ?_ | wp_step)
 refine codeAny_call_builtin_code (SS _ Dy.quiet) (η a ?_);refine θ a ?_ hrest;show aR _ _ _ _ _ _;have c:∀b o,h.get? b=some o->((h.push {cls:= .type "tuple",data:= .seq rest.toArray}).push {cls:= .ref C,data:= .fields #[.ref h.objs.size,.none,.none,.none,.bool false,.none]}).get? b=some o:=
  λ b o e=>dP _ (dP _ e)
 have f:=X.keeps c;have i:((h.push {cls:= .type "tuple",data:= .seq rest.toArray}).push
   {cls:= .ref C,data:= .fields #[.ref h.objs.size,.none,.none,.none,.bool false,.none]}).get? (h.objs.size+1)=some
   {cls:= .ref C,data:= .fields #[.ref h.objs.size,.none,.none,.none,.bool false,.none]}:=by heap_get
 unfold Ih
 repeat (first | with_reducible refine qK i ?_ | (with_reducible refine zU (c _ _ a) ?_;rw [(by simp:(kQ C::hq dy).contains (.ref C)=true)]) | wp_step)
 show aR _ _ (typeLookup (.ref C) _) _ _ _;refine (sG (M:=aX prog w) f j).here ?_;refine eb (aG ?_);refine (bind_fn f _ k).here ?_;refine aG (cL (l _ (h.objs.size+1) ⟨c,aic (sF _),h.objs.size,i,aic (dn _),?_⟩) (λ r s' m=> ?_) λ _ _ x=>x)
 ·exact dP _ (Heap.get?_push_at rfl rfl)
 ·obtain ⟨rfl,n⟩:=m
  wp_walk
  exact n
theorem ν {hY:ak} {Q:cA} (a:h.get? C=some (pA nm q C N bs (hq dy) hdct sn sub ab col dd k0 k1 k2 k3 k5 "Exception.__new__"))
  (X:K.In h) (b:findIn K (.ref C) "__init__"=some (some (.ref hY))) (c:oe K (.ref hY)=some (.type "function"))
  (f:∀h' e,aib h h' e (.ref C) rest->
   aR (aX prog w) (A.under (.builtin "type.__call__" ⟨.ref C::rest,[]⟩)) (call (.ref hY) (.ref e::rest)) (λ r s'=>r= .none∧Q (.ref e) s') E ⟨h',g,d,t,os⟩) (hrest:rest.length<=sx:=by size_fits):
  aR (aX prog w) A (call (.ref C) rest) Q E ⟨h,g,d,t,os⟩:=by
 have j:=tc_lookup;have k:=tc_bind (.ref C);have l:(⟨h,g,d,t,os⟩:a4).TypeIs (.ref C) "type":=⟨_,a,rfl⟩;refine wH (SR ?_);show aR _ _ (callAny (.ref C) _) _ _ _
 repeat (any_goals (first | assumption | with_reducible refine qK a ?_ | wp_step))
 refine ⟨rfl,?_⟩;refine codeAny_call_builtin_at (SS _ (by decide+kernel)) entry_typeCall (wpAny_check_type_call_sub a (ι (hrest:=hrest) a X b c λ h' e i=> ?_))
 exact f h' e i
end
end
section
section
variable {prog:gi} {w:fp} {A:c8} {E:cA} {h:a3} {g:Array zH} {d:Drawn} {t:Nat} {os:oc}
variable {nm q:aW} {C N dy:ak} {bs bm:cH} {hdct:Bool} {sn:bZ} {sub:cH} {ab:Bool} {col:Option Bool} {dd:Option ak} {k0 k1 k2 k3 k5:Option aE}
theorem ξ {M:wC} {e:ak} {Q:Unit->a4->Prop}
  (c:h.get? C=some (pA nm q C N bs (hq dy) hdct sn sub ab col dd k0 k1 k2 k3 k5 "Exception.__new__")) (f:h.get? e=some c7) (i:c7.cls= .ref C) (j:Q () ⟨h,g,d,t,os⟩):
  aR M A (zT "Exception.__init__" ⟨.ref e::rest,[]⟩) Q E ⟨h,g,d,t,os⟩:=by
 have F:=Dy;have k:=F.noStar;unfold zT;rw [F.initKind,F.initSplit,F.initRow];dsimp only
 repeat (first | (with_reducible refine qK f ?_;rw [i]) | with_reducible refine qK c ?_ | (with_reducible refine zU c ?_;rw [(rF (C:=C) (dy:=dy) "Exception" true (by decide+kernel))]) | wp_step)
 refine wpAny_onRaise ?_;rw [show ∀(a b:String) (n:Nat),Bind.check ⟨.positional,"*","Exception",.self,[⟨"args",.varPos,false⟩]⟩ a b n (Tq (λ x=>x.fst) ({pos:=kQ e::rest}:Args).kw)=pure () from
  λ a b n=>check_star_args _ _ _ _ _ _]
 exact bl j
theorem π {e c:ak} {v:aE} {Q:cA}
  (f:h.get? C=some (pA nm q C N bs (hq dy) hdct sn sub ab col dd k0 k1 k2 k3 k5 "Exception.__new__"))
  (a:h.get? e=some {cls:= .ref C,data:= .fields #[.ref c,.none,.none,.none,.bool false,.none]})
  (i:∀h' j,(∀b o,b≠e->h.get? b=some o->h'.get? b=some o)->h'.get? e=some {cls:= .ref C,data:= .fields #[.ref j,.none,.none,.none,.bool false,.none]}->Q .none ⟨h',g,d,t,os⟩):
  aR (aX prog w) A (call (.builtin "Exception.__init__") [.ref e,v]) Q E ⟨h,g,d,t,os⟩:=by
 have F:=Dy;refine wH (IW F.init.plain F.initEntry (ξ f a rfl ?_))
 wp_walk
 have m:e≠h.objs.size:=e6 (iu a);refine i _ h.objs.size (λ b o k l=> ?_) ?_
 ·rw [wB _ _ (hy k)];exact dP _ l
 ·rw [sy _ (dP _ a) rfl]
  rfl
theorem ρ (self:aE) (a b:ak):refuseLoop self "__setattr__" [.ref a,.ref b,.type "Exception",.type "BaseException",.type "object"]=pure ():=by
 rw [refuseLoop_ref,refuseLoop_ref]
 kernel_rfl
end
end
end Mine
end
section
open PySem PySem.W PyProof.Rows PySem.Calls PySem.SeqAt PySem.Builtin PySem.Builtin.ObjectAttr
namespace Mine
variable {dT:dq} {name:aW} {v:aE}
open Classical
section
section
variable {prog:gi} {w:fp} {A:c8} {E:cA} {s:a4} {K:dt} {dy:ak} {C x:ak} {R:ps->a4->Prop}
theorem Nb {i:Option dq} {tk:Tok} (X:K.In s.heap) (I:sz s.heap x dT C i) (j:(wO K C).any (λ a=>a.mro== .ref C::hq dy)=true) (b8:findIn K (.ref C) name=some none)
  (h:∀b,aR (aX prog w) A.in1 (storeInOwnDict (.ref x) (.ref C) (.str name tk) name v b)
   (λ fin s'=>match fin with | .done f=>R (.ok f) s' | .again g=>g.quiet=true/\ jc (aX prog w) A g R s') (λ e s'=>R (.error e) s') s):
  jc (aX prog w) A (.call (.builtin "object.__setattr__") ⟨[.ref x,.str name tk,v],[]⟩) R s:=by
 have c:=PySem.F.store_object;obtain ⟨a,aI,d⟩:=Iv j;have d:a.mro= .ref C::hq dy:=beq_iff_eq.mp d;have ne:a.mro.isEmpty=false:=by rw [d];rfl
 refine IW c.slot.plain c.entry (@check_slot (aX prog w) _ _ s "object.__setattr__" "object" "__setattr__" (.ref x) [.str name tk,v] [] _ c.kind c.split (I.type.andThen (looks_mroIn X (by unfold mroIn;rw [aI,ahr,if_neg (by rw [ne];decide),d,rF "object" true (by decide+kernel)])):uw (aX prog w) s.heap (Ih (.ref x) (.type "object")) true) (c.args (.ref x) (.str name tk) v) ?_)
 rw [osa_eq,refuse_eq];refine aG (aG (I.type.here (aG (((Iw X aI).andThen .now:uw (aX prog w) s.heap (mroOf (.ref C)) a.mro).here ?_))));rw [d];unfold hq;rw [ρ];refine bl (aG (I.type.here (aG ((sG X b8).here (aG ((.now:uw (aX prog w) s.heap (storeTaker? none) none).here ?_))))));exact h _
theorem ς {Q:Unit->a4->Prop} (X:K.In s.heap) (c:s.heap.get? x=some dT) (d:dT.cls= .ref C) (q:zt dT=true) (f:dT.dict=none) {vs:Array aE} (g:dT.data= .fields vs)
  (r:findIn K (.ref C) "__setattr__"=some (some (.builtin "object.__setattr__"))) (t:(wO K C).any (λ i=>i.mro== .ref C::hq dy)=true) (hd:zu K C=true) (b8:findIn K (.ref C) name=some none)
  (h:∀h' tk,(∀b o,b≠x->s.heap.get? b=some o->h'.get? b=some o)->h'.get? x=some {dT with dict:=some s.heap.objs.size}->h'.Ns1 s.heap.objs.size (λ z=>if z=name then some v else none)->Q () {s with heap:=h',toks:=tk}):
  aR (aX prog w) A (Iu (.ref x) name v) Q E s:=by
 have j:sz s.heap x dT C none:=⟨c,d,q,by rw [f];trivial⟩
 refine set_plain X j r (Nb (s:={s with toks:=s.toks+1}) X j t b8 λ b=> ?_)
 obtain ⟨L,M,N,u⟩:=dT;dsimp only at d f g;subst d f g;obtain ⟨i,aI,y⟩:=Iv hd;refine aG (bl (aG (aG (C7 c (aG ((Sj (s:={s with toks:=s.toks+1}) (Iw X aI)) ?_))))))
 rw [y];have k:x≠s.heap.objs.size:=e6 (iu c);rw [if_neg (by decide),if_neg (by rw [show typeHasDict (kQ C)=true from rfl];decide)]
 dsimp only;refine aG (wpAny_alloc (aG (wpAny_update (dP _ c) ?_)));refine bl (a:=some s.heap.objs.size) (aG (bl (aG ?_)));have B:((s.heap.push {cls:= .type "dict",data:= .dict #[]}).update x λ o=>{cls:=o.cls,dict:=some s.heap.objs.size,data:=o.data,slots:=o.slots}).get? s.heap.objs.size=some {cls:= .type "dict",data:= .dict #[]}:=by
  rw [wB _ _ k];exact (hc s.heap (o:={cls:= .type "dict",data:= .dict #[]}) rfl)
 have D:((s.heap.push {cls:= .type "dict",data:= .dict #[]}).update x λ o=>{cls:=o.cls,dict:=some s.heap.objs.size,data:=o.data,slots:=o.slots}).get? x=some {cls:= .ref C,dict:=some s.heap.objs.size,data:= .fields vs,slots:=u}:=by
  rw [sy _ (dP _ c) rfl]
 have F:((s.heap.push {cls:= .type "dict",data:= .dict #[]}).update x λ o=>{cls:=o.cls,dict:=some s.heap.objs.size,data:=o.data,slots:=o.slots}).Ns1 s.heap.objs.size (λ _=>none):=
  ⟨_,#[],_,B,rfl,(λ e G=>by simp at G),ah2,λ x=>rfl⟩
 refine Sk F λ h' l m=> ?_;have zz:Within (λ z=>if z=name then some v else none) [name]:=by
  intro z hz
  by_cases e:z=name
  ·rw [e];exact b3.mpr rfl
  ·simp only [if_neg e] at hz;exact absurd rfl hz
 obtain ⟨O,es,ep,H,I,n⟩:=l.count zz;refine aG (Sl H (by rw [I];exact Sm (by rw [nd] at n;rw [jX];exact bF (a9 n (by decide)))) ?_)
 refine bl ?_;refine h h' _ (λ b o J p=> ?_) ?_ l
 ·rw [m.2 b (e6 (iu p):b≠s.heap.objs.size),wB _ _ (hy J)];exact dP _ p
 ·rw [m.2 x k];exact D
theorem χ {dx:ak} {m:aW->Option aE} {Q:Unit->a4->Prop} (X:K.In s.heap) (f:s.heap.get? x=some dT) (c:dT.cls= .ref C) (p:zt dT=true) (d:dT.dict=some dx) (g:s.heap.Ns1 dx m) {l:bZ} (q:Within m l) (r:l.length<100)
  (t:findIn K (.ref C) "__setattr__"=some (some (.builtin "object.__setattr__"))) (u:(wO K C).any (λ i=>i.mro== .ref C::hq dy)=true) (hd:zu K C=true) (b8:findIn K (.ref C) name=some none)
  (h:∀h' tk,(∀b o,b≠dx->s.heap.get? b=some o->h'.get? b=some o)->h'.Ns1 dx (λ z=>if z=name then some v else m z)->Q () {s with heap:=h',toks:=tk}):
  aR (aX prog w) A (Iu (.ref x) name v) Q E s:=by
 obtain ⟨y,_,_,B,_⟩:=id g;have j:sz s.heap x dT C (some y):=⟨f,c,p,by rw [d];exact B⟩
 refine set_plain X j t (Nb (s:={s with toks:=s.toks+1}) X j u b8 λ b=> ?_)
 obtain ⟨L,M,N,O⟩:=dT;dsimp only at c d;subst c d;obtain ⟨i,aI,D⟩:=Iv hd;refine aG (bl (aG (aG (C7 f (aG ((Sj (s:={s with toks:=s.toks+1}) (Iw X aI)) ?_))))))
 rw [D];refine bl (a:=some dx) (aG (bl (aG ?_)));refine Sk g λ h' k F=> ?_;have zz:Within (λ z=>if z=name then some v else m z) (name::l):=by
  intro z hz
  by_cases e:z=name
  ·rw [e];exact .head _
  ·simp only [if_neg e] at hz;exact .tail _ (q z hz)
 obtain ⟨P,es,ep,G,H,n⟩:=k.count zz;refine aG (Sl G (by rw [H];exact Sm (by rw [f7] at n;rw [jX];exact bD (.l (.s .p) (.k 100)<| .l .q (.s .p)<| .g .q (.k 16777217)) rfl r n)) ?_)
 refine bl ?_;exact h h' _ (λ b o I J=>(F.2 b I).trans J) k
end
end
end Mine
end
section
open PySem PySem.W PyProof.Rows PySem.Calls PySem.SeqAt
namespace Mine
open Classical
section
section
variable {W:a0} {r:Nat} {c:bq} {env:b0} {A:c8} {fr:List b0} {l:cq} {H:ag} {h h':a3} {s:a4}
def Loose (W:a0) (H:ag) (h:a3) (b:ak):Prop:=W.h0.get? b=none∧¬d2 H h b∧H b=none∧∀o,h.get? b=some o->¬Still o
theorem Nc {X:ak->Prop} (a:∀b,X b->Loose W H h b) (k:∀b o,¬X b->h.get? b=some o->h'.get? b=some o):eB W cT X H h H h':=
 .off (λ b o d=>(a b d).2.2.2 o) (λ b d=>(a b d).1) (λ b d=>(a b d).2.1) (λ b d=>(a b d).2.2.1) k
theorem ω {X:ak->Prop} (S:bW W H h) (f:∀b,X b->Loose W H h b)
  (k:∀b o,¬X b->h.get? b=some o->h'.get? b=some o) (_:∀b,X b->h'.get? b=none->h.get? b=none):bW W H h'∧bh W X H h H h'∧∀a,d2 H h' a->d2 H h a:=by
 have st:=Nc f k;have jF:∀a,d2 H h' a->d2 H h a:=λ a m=>by
  cases m with
  | o o e m=>exact .o o e m
  | d y q=>exact .d y (st.own S id q)
 exact ⟨st.sim S,⟨λ a o e nm c=> .s (k a o c e),λ a _ m=> .inl (jF a m),λ a c e=>kO.mpr λ o q=>no (e.symm.trans (k a o c q)),λ _ _ e=>e⟩,jF⟩
theorem ajg {b:ak} (S:bW W H h) {J:a3} (k:∀a o,h.get? a=some o->J.get? a=some o) (c:h.get? b=none):¬d2 H J b∧H b=none∧W.h0.get? b=none:=
 ⟨λ m=>(S.qU (d2.grow S k m)).elim λ bT z=>no (c.symm.trans z.1),S.none_of c,S.oo c⟩
theorem At.off {X:ak->Prop} (Y:At W r c env A fr l H s) {tk:Nat} (d:∀b,X b->Loose W H s.heap b)
  (k:∀b o,¬X b->s.heap.get? b=some o->h'.get? b=some o) (al:∀b,X b->h'.get? b=none->s.heap.get? b=none)
  (gW:∀b,Pv env b->¬X b) (f:∀e∈fr,∀L,e.frame=some L->¬X L):At W r c env A fr l H {s with heap:=h',toks:=tk}∧bh W X H s.heap H h'∧∀a,d2 H h' a->d2 H s.heap a:=by
 have aD:=ω Y.2.1 d k al;exact ⟨⟨⟨Y.1.1,Y.1.2,Y.1.3,Y.1.4,Y.1.5.keep aD.2.1 f⟩,Y.2.heap aD.1 tk,Y.3.u9 aD.2.1 (gW _ (.inl rfl)) (λ x a e=>gW _ (.inr ⟨x,e⟩)) (Nc d k).stays⟩,aD.2.1,aD.2.2⟩
end
end
end Mine
end
section
open PySem PySem.W PyProof.Rows PySem.Calls PySem.SeqAt PySem.Builtin PySem.Builtin.ObjectAttr
namespace Mine
variable {name x:aW} {i:Nat} {bg:ai} {Q ba:cA} {eU hS:cn} {b dy e hY:ak} {K:dt} {w:fp} {fd:lI} {p:gi} {e2:cH} {c7:dq} {jF m rJ:aW->Option aE} {b6:a4} {loose:bZ} {yd:ExcName->Option aE}
open Classical
section
section
variable {W:a0} {r:Nat} {c:bq} {env:b0} {A:c8} {fr outer:List b0} {l a7:cq} {H aa:ag} {h h':a3} {s s':a4} {E:cA}
theorem Nd (X:At W r c env A fr l H s) {p:cn} (hd:x≠("__debug__":aW)) (a:Var c x i) (k:c.kind x=some .local) (b:l[i]? =some (some bg)) (q:∀v,bt W.G s.heap v bg->Q v s):
  aR (aX W.prog W.w) A (eval (.Name x p) env) Q E s:=by
 obtain ⟨m,d,f⟩:=X.3.6.5;obtain ⟨v,e,g⟩:=f i x bg a.1 k b;exact rt hd (IX X.3.2 ((X.3.kindOf x).trans k) d e (q _ g))
theorem Nf (X:At W r c env A fr l H s) {self a y:aW} {dp pos:cn} {j:Nat} {Q:qJ->a4->Prop}
  (b:self≠("__debug__":aW)) (d:Var c self i) (k1:c.kind self=some .local) (f:l[i]? =some (some (.ref e)))
  (g:y≠("__debug__":aW)) (h:Var c y j) (k2:c.kind y=some .local) (k:l[j]? =some (some bg))
  (q:∀u,bt W.G s.heap u bg->aR (aX W.prog W.w) A (Iu (.ref e) a u) (λ _ s'=>Q .next s') E s):
  aR (aX W.prog W.w) A (exec (.Assign [.Attribute (.Name self dp) a eU] (.Name y hS) pos) env) Q E s:=by
 rw [arm_exec_Assign];refine aG (fA (aG ?_));rw [show swapsWithSole [.Attribute (.Name self dp) a eU] (.Name y hS) pos.line env=pure false from rfl];refine bl ?_;rw [if_neg fS];refine aG (Nd X g h k2 k λ u m=> ?_);rw [show swappedStores [.Attribute (.Name self dp) a eU] (.Name y hS) env=pure none from rfl];refine aG (bl ?_);unfold assignStores;refine aG ?_;rw [show wK [.Attribute (.Name self dp) a eU] env=[(false,oi (.Attribute (.Name self dp) a eU) env)] from rfl];show aR _ A (oi (.Attribute (.Name self dp) a eU) env u) _ _ s;rw [ahV];refine aG (eb (Nd X b d k1 f λ w n=> ?_));obtain rfl:w= .ref e:=n.inv;exact aG (fA (aG (eb (cL (q u m) (λ _ s' z=>Td (bl z)) λ _ _ z=>z))))
theorem Ζ {T:String} {name:aW} {v:aE} {prog:gi} {gC:Sem Bool} {Q:aE×cH->a4->Prop} (X:K.In s.heap) (b8:zB (.type T)=pure (.type "type")) (b:aid T=false)
  (e:Dz K (.type T) (.type "type") name=some (.val v)) (c:uk v=true) (h:Q (v,[]) {s with toks:=s.toks+1}):aR (aX prog w) A (uC (.type T) name gC) Q E s:=
 let F:Fr s.heap s.heap.objs.size s.heap (λ _=>none)->True:=λ _=>trivial
 by
 have d:Tr (.type T)=pure none:=by unfold Tr;dsimp only;rw [b];rfl
 have qO:uw (aX prog w) s.heap (zB (.type T)) (.type "type"):=zC b8;have a:findIn K (.type "type") "__getattribute__"=some (some (.builtin "type.__getattribute__")):=type_tga;unfold uC specialOf;refine aG (aG (qO.here ((sG X a).here ?_)));dsimp only;rw [if_pos canon_tga];refine aG (cL (Q:=λ v=>Q (v,[])) (E:=E) ?_ (λ _ _ z=>bl z) λ _ _ z=>z);refine cls_open X (zC d:uw (aX prog w) s.heap (Tr (.type T)) none) qO a (looks_hook X (r:=none) (by rfl)) (by show subIn K _ _=_;rfl) e
  (bl (by show aR _ _ (handedOut v) _ _ _;rw [handedOut_of c];exact bl h))
theorem ty_Exception:zB (.type "Exception")=pure (.type "type"):=by first | rfl | decide | simp [zB]
theorem Θ (K:dR W) (X:At W r c env A (env::outer) l H s) {f self y:aW} {dp d a g:cn} {e:ak} {bg:ai} {Q:qJ->a4->Prop}
  (i:eU.endLine=a.line) (j:f≠("__debug__":aW)) (k0:c.kind f=some .globalImplicit) (k:nj W f (.type "Exception")) (m:Dz W.K (.type "Exception") (.type "type") "__init__"=some (.val (.builtin "Exception.__init__")))
  (xs:eV W r c [.Name self hS,.Name y d]) (n:∀{H1:ag},runs W r mu (xs.f []) [] l H1 λ _ st _ aa=>st=[bg,.ref e]∧aa=H1)
  (q:∀u s1,At W r c env A (env::outer) l H s1->bh W cT H s.heap H s1.heap->aR (aX W.prog W.w) A (call (.builtin "Exception.__init__") [.ref e,u]) (λ _ s'=>Q .next s') E s1):
  aR (aX W.prog W.w) A (exec (.Expr (.Call (.Attribute (.Name f dp) "__init__" eU) [.Name self hS,.Name y d] [] a) g) env) Q E s:=by
 refine wpAny_Expr_any ?_ (LR X.3) rfl;rw [S7,show wL (.Name f dp) "__init__" env (eval (.Name f dp) env)=eval (.Name f dp) env from rfl];refine aG (rt j (xq K X k0 k (aG (fA ?_))));unfold S8;rw [E4 xs a (by decide:2<20)]
 refine aG (eb ?_);show aR _ _ (uC (.type "Exception") "__init__" _) _ _ _;refine Ζ (T:="Exception") (name:="__init__") (v:= .builtin "Exception.__init__") (bW.ji (s:=s) K X.2.1) ty_Exception (by decide+kernel:aid "Exception"=false) m (by kernel_rfl:uk (.builtin "Exception.__init__")=true) (aG ?_)
 rw [show S9 true (.Name f dp) env eU a=pure a from if_pos (show (false||eU.endLine==a.line)=true from beq_iff_eq.mpr i)];refine bl ((xs.call K (X.tok _) (λ h _=>⟨.machine,.inr (.inl rfl),zC rfl⟩) n λ vs dm D o p t w F b=> ?_));obtain ⟨b,rfl⟩:=b;have x:dm=[.ref e,bg]:=by rw [<- List.reverse_inj,<- h9 dm.reverse,b];rfl
 obtain ⟨z,B,rfl,C,G⟩:=(x▸w).two;obtain rfl:z= .ref e:=C.inv;exact q B o p t
end
end
section
noncomputable def vt (p:Nat->cn):List fT:=[
 .Expr (.Call (.Attribute (.Name "Exception" (p 0)) "__init__" (p 1)) [.Name "self" (p 2),.Name "what" (p 3)] [] (p 4)) (p 5),
 .Assign [.Attribute (.Name "self" (p 6)) "what" (p 7)] (.Name "what" (p 8)) (p 9),
 .Assign [.Attribute (.Name "self" (p 10)) "at" (p 11)] (.Name "at" (p 12)) (p 13)]
noncomputable abbrev rG (W:a0) (C dy hY:ak) (fd:lI) (p:Nat->cn) (e2:cH):Prop:=eT (W.G .jE= .ref C) (∃o,W.h0.get? C=some o∧FF o C (hq dy)) (findIn W.K (.ref C) "__init__"=some (some (.ref hY))) (oe W.K (.ref hY)=some (.type "function")) (findIn W.K (.ref C) "__setattr__"=some (some (.builtin "object.__setattr__"))) (eT ((wO W.K C).any (λ a=>a.mro== .ref C::hq dy)=true) (zu W.K C=true) (findIn W.K (.ref C) "what"=some none) (findIn W.K (.ref C) "at"=some none) (rE W hY fd (vt p) ([("self":aW),"what","at"]) 2 e2) (eT (dQ W.G W.h0 e2 [.none]) ((bq.of fd.scope).names=[("self":aW),"what","at"]) ((bq.of fd.scope).kind "self"=some .local) ((bq.of fd.scope).kind "what"=some .local) ((bq.of fd.scope).kind "at"=some .local) (iV ((bq.of fd.scope).kind "Exception"=some .globalImplicit) (nj W "Exception" (.type "Exception")) ((p 1).endLine=(p 4).line) (Dz W.K (.type "Exception") (.type "type") "__init__"=some (.val (.builtin "Exception.__init__"))))))
section
variable {W:a0} {r:Nat} {env:b0} {A:c8} {outer:List b0} {H:ag} {s:a4}
inductive Μ (W:a0) (C e:ak) (H:ag) (s s':a4):Prop
 | mk (S:b4 W H s') (k:bh W (λ b=>b=e) H s.heap H s'.heap) (tt d:ak) (m:aW->Option aE) (ge:s'.heap.get? e=some {cls:= .ref C,dict:=some d,data:= .fields #[.ref tt,.none,.none,.none,.bool false,.none]}) (hd:s.heap.get? d=none) (ns:s'.heap.Ns1 d m) (aB:m "at"=some .none) (b8:m "told"=none)
theorem FG {C a:ak} {dd:Option ak} (S:bW W H s.heap) (hw:W.h0.get? e=none) (g:s.heap.get? e=some {cls:= .ref C,dict:=dd,data:= .fields #[.ref a,.none,.none,.none,.bool false,.none]}) (b:ak) (c:b=e):Loose W H s.heap b:=
 have x:Rec W s.heap e:=⟨hw,_,_,g,rfl,λ q=>Dv q⟩
 c▸⟨hw,x.nm S,x.none S,x.mD⟩
theorem Ν (K:dR W) {C:ak} {p:Nat->cn} (O:rG W C dy hY fd p e2) {F:ak} {a1:ai}
  (Y:At W r (bq.of fd.scope) env A (env::outer) [some (.ref e),some a1,some .none] H s)
  (G:s.heap.get? e=some {cls:= .ref C,data:= .fields #[.ref F,.none,.none,.none,.bool false,.none]})
  (hw:W.h0.get? e=none) (gW:¬Pv env e) (Z:∀x∈env::outer,∀L,x.frame=some L->L≠e):
  aR (aX W.prog W.w) A (uE (vt p) env) (λ f s'=>f= .next∧Μ W C e H s s') (λ _ _=>False) s:=by
 have n:Var (bq.of fd.scope) "self" 0:=⟨O.6.6.2▸rfl⟩;have I:Var (bq.of fd.scope) "what" 1:=⟨O.6.6.2▸rfl⟩;obtain ⟨pP,vu,⟨⟨nm,q,N,bs,hdct,sn,sub,ab,col,dd,k0,k1,k2,k3,k5,rfl⟩⟩⟩:=O.2;unfold vt;refine uF ?_;refine Θ K Y (bg:=a1) (e:=e) O.6.6.6.3 (by decide) O.6.6.6.1 O.6.6.6.2 O.6.6.6.4 (.cons (.name "self" _ (by decide) (.ae 0) λ X v=>AW X n v) (.cons (.name "what" _ (by decide) (.ae 1) λ X v=>AW X I v) .nil)) (λ {H1}=>by show ([a1,ai.ref e]:aV)=[a1,ai.ref e]∧H1=H1;exact ⟨rfl,rfl⟩) λ u s1 t y=> ?_
 have Ξ:=(FG (W:=W) (H:=H) Y.2.1 hw G e rfl).2.1;have g1:s1.heap.get? e=some {cls:= .ref C,data:= .fields #[.ref F,.none,.none,.none,.bool false,.none]}:=by
  cases y.1 e _ G Ξ id with
  | s q=>exact q
  | f c=>exact c.elim λ _ _ c=>e4 c
 have J:∀x∈env::outer,∀L,x.frame=some L->¬L=e:=Z;have M:∀b,Pv env b->¬b=e:=λ b q w=>gW (w▸q);refine π (t.2.1.2 C _ vu) g1 λ d P Ο i=> ?_;have g:=t.off (X:=λ b=>b=e) (h':=d) (tk:=s1.4) (FG t.2.1 hw g1) (λ b o h q=>Ο b o h q) (λ b B q=>no ((B▸q:d.get? e=none).symm.trans i)) M J;refine uF (Nf g.1 (by decide) n O.6.6.3 rfl (by decide) I O.6.6.4 rfl λ iU ajh=> ?_)
 refine ς (C:=C) (dy:=dy) (vs:= #[.ref P,.none,.none,.none,.bool false,.none]) (bW.ji (s:=⟨d,s1.2,s1.3,s1.4,s1.5⟩) K g.1.2.1) i rfl rfl rfl rfl O.5 O.6.1 O.6.2 O.6.3 λ j Q x3 D R=> ?_;have aD:=g.1.off (X:=λ b=>b=e) (h':=j) (tk:=Q) (FG g.1.2.1 hw i) (λ b o h q=>x3 b o h q) (λ b B q=>no ((B▸q:j.get? e=none).symm.trans D)) M J;have k:d.get? d.objs.size=none:=gA _;have S:d.objs.size≠e:=λ w=>no (k.symm.trans (w▸i));have E:s.heap.get? d.objs.size=none:=y.3 _ id (g.2.1.3 _ S k);refine uF (Nf aD.1 (by decide) n O.6.6.3 rfl (by decide) (⟨O.6.6.2▸rfl⟩:Var (bq.of fd.scope) "at" 2) O.6.6.5 rfl λ sI Ρ=> ?_)
 obtain rfl:sI= .none:=Ρ.inv;refine χ (C:=C) (dy:=dy) (dx:=d.objs.size) (l:=[("what":aW)]) (bW.ji (s:=⟨j,s1.2,s1.3,Q,s1.5⟩) K aD.1.2.1) D rfl rfl rfl R (λ z hz=> ?_) (by decide) O.5 O.6.1 O.6.2 O.6.4 λ cb Bl T Τ=> ?_
 ·by_cases w:z=("what":aW)
  ·exact w▸.head _
  ·exact absurd (if_neg w) hz
 have own:Own W H j d.objs.size:=by
  obtain ⟨bw,es,ep,hU,U,_⟩:=R;exact ⟨g.1.2.1.oo k,λ m=>(g.1.2.1.qU (aD.2.2 _ m)).elim λ bT w=>no (k.symm.trans w.1),bw,hU,(λ _ _ q=>e4 (U.symm.trans q)),λ _ q=>e4 (U.symm.trans q)⟩
 have old:∀b o,s.heap.get? b=some o->b≠d.objs.size:=λ b o e w=>no (E.symm.trans (w▸e));have V:=own.write aD.1.2.1 (h':=cb) λ b o h q=>T b o h q;exact bl ⟨rfl,aD.1.2.heap V.1 Bl,bh.qW (P':=λ b=>b=e∨b=d.objs.size) ((((y.gI.trans (g.2.1.weak λ a q=> .inl q)).trans (aD.2.1.weak λ a q=> .inl q))).trans (V.2.weak λ a q=> .inr q)) (λ a q=>q.imp id λ (q:a=d.objs.size)=>q▸E),P,d.objs.size,_,T e _ (hy S) D,E,Τ,rfl,rfl⟩
end
end
section
section
variable {M:wC} {A:c8} {E:cA} {env:b0}
variable {nm q:aW} {C N dy:ak} {bs bm:cH} {hdct:Bool} {sn:bZ} {sub:cH} {ab:Bool} {col:Option Bool} {dd:Option ak} {k0 k1 k2 k3 k5:Option aE}
theorem Υ {s:a4} {x:Sem aE} {Q:qJ->a4->Prop} (b:A.handled=none)
  (h:aR M A x (λ v b6=>hi λ e c d=>v= .ref e∧b6.heap.get? C=some (pA nm q C N bs (hq dy) hdct sn sub ab col dd k0 k1 k2 k3 k5 "Exception.__new__")∧
   b6.heap.get? e=some {cls:= .ref C,dict:=d,data:= .fields #[.ref c,.none,.none,.none,.bool false,.none]}∧E (.ref e) b6) E s):
  aR M A (raiseStmt env (some x) none) Q E s:=by
 unfold raiseStmt;refine aG (cL h (λ v b6 h₁=> ?_) λ _ _ x=>x);obtain ⟨e,t,i,rfl,a,f,g⟩:=h₁
 repeat (first | with_reducible refine qK f ?_ | with_reducible refine qK a ?_ | (with_reducible refine zU a ?_;rw [(rF (C:=C) (dy:=dy) "BaseException" true (by decide+kernel))]) | wp_step)
 exact wpAny_raiseNew_none b g
end
section
variable {W:a0} {r:Nat} {c:bq} {env:b0} {A:c8} {fr outer:List b0} {l a7:cq} {H aa:ag} {h h':a3} {s s':a4}
theorem Φ (K:dR W) {C:ak} {p:Nat->cn} (O:rG W C dy hY fd p e2):rB W:=by
 intro r c f fh m h pos x U ao env outer A l H s k st ba jJ X B v;obtain rfl:f="GrammarError":=beq_iff_eq.mp U;obtain ⟨pP,I,⟨⟨nm,q,N,bs,hdct,sn,sub,ab,col,dd,k0,k1,k2,k3,k5,rfl⟩⟩⟩:=O.2;rw [arm_exec_Raise];refine aG (fA (Υ (C:=C) (nm:=nm) (q:=q) (N:=N) (bs:=bs) (dy:=dy) (hdct:=hdct) (sn:=sn) (sub:=sub) (ab:=ab) (col:=col) (dd:=dd) (k0:=k0) (k1:=k1) (k2:=k2) (k3:=k3) (k5:=k5) X.1.3 ?_));refine aG (m:=eval (.Call (.Name "GrammarError" fh) [m] [] h) env) (cL (Q:=λ v b6=>hi λ e y d=>v= .ref e∧b6.heap.get? C=some (pA nm q C N bs (hq dy) hdct sn sub ab col dd k0 k1 k2 k3 k5 "Exception.__new__")∧
   b6.heap.get? e=some {cls:= .ref C,dict:=d,data:= .fields #[.ref y,.none,.none,.none,.bool false,.none]}∧gr W env (env::outer) H s.heap ba (.ref e) b6) ?_ (λ _ _ x=>aG (fA (bl x))) λ _ _ x=>x)
 show aR _ _ (eval (.Name "GrammarError" fh) env>>=λ V=>callWith h V [] (px h (nc [m] env)) (I1 h (I2 [] env))) _ _ _;refine aG (rt (by decide) (xq K X ao (K.3 "GrammarError" .jE (by kernel_rfl)) ((eV.cons x .nil).call K X (AX K .jE) (k:=[.raise]) v λ vs dm H1 s1 b D J E Y=> ?_)))
 obtain ⟨t,rfl⟩:=zo.mp E;obtain ⟨⟨⟨t,rfl⟩,Z⟩,fX⟩:=Y;obtain ⟨i,rfl⟩:∃i,r=i+2:=⟨r - 2,(ef Z).symm⟩;rw [O.1];have x4:vs.length=1:=J.length;show aR _ _ (call (.ref C) vs) _ _ _;refine ν (b.2.1.2 C _ I) (bW.ji (s:=s1) K b.2.1) O.3 O.4 (λ h' e g=> ?_) (by rw [x4,jX];decide)
 obtain ⟨t0,M,aji,ajj⟩:=g.there;have S':b4 W H1 ⟨h',s1.2,s1.3,s1.4,s1.5⟩:=⟨b.2.1.grow g.keeps,b.2.2,b.2.3⟩;have F:bh W cT H1 s1.1 H1 h':=bh.grows b.2.1 cT g.keeps;have P:=Mc (r:=i+1) X.1.1 X.1.2;refine wH (Fo (s:=⟨h',s1.2,s1.3,s1.4,s1.5⟩) (A:=A.under (.builtin "type.__call__" ⟨.ref C::vs,[]⟩)) (fr:=env::outer) (r:=i) (as:=[.ref e,.str t]) K ⟨C,O.1⟩ O.6.5 O.6.6.1 rfl ⟨P.1,P.2,X.1.3,X.1.4,b.1.5.keep F λ _ _ _ _=>id⟩ S' (.cons (.ref e) (J.stays (.of_keep g.keeps))) λ s2 j=> ?_);have R:=j.3 _ _ M;have E:oM (bq.of fd.scope).names [("self":aW),"what","at"] ([.ref e,.str t]++[.none])=[some (.ref e),some (.str t),some .none]:=by
  rw [O.6.6.2];rfl
 have G:=j.1;rw [E] at G;refine cL (Ν K O G R (b.2.1.oo g.new) (λ p=>no ((j.4 _ p).symm.trans M)) (λ x ay L bL w=> ?_)) (λ f s3 z=> ?_) λ _ _ z=>z.elim
 ·obtain ⟨_,iK,o,da,_,fu,⟨es,n,iH⟩,_⟩:=G.1.5 x ay;exact e4 (iH.symm.trans (congrArg Th (dC fu ((dC da bL).symm▸w▸R))))
 ·obtain ⟨rfl,S,k3,y,d,dr,ge,w7,Bn,kq,Χ⟩:=z;have k2:bh W cT H1 h' H1 s2.heap:=bh.grows S'.1 cT j.3;have T:s.heap.get? e=none:=D.3 _ id g.new;have u:bh W cT H s.heap H1 s3.heap:=bh.drop ((((D.trans F).trans k2).gI).trans k3) λ a q=>q▸T;refine ⟨rfl,e,y,some d,rfl,S.1.2 C _ I,ge,⟨e,H1,rfl,S,u.gI,X.1.5.keep u λ _ _ _ _=>id,⟨_,_,d,dr,ge,O.1.symm,rfl,rfl,(by show 1<6;decide),T,(D.3 _ id (F.3 _ id (k2.3 _ id w7)):s.heap.get? d=none),Bn,⟨kq,Χ⟩,.inl rfl⟩,fX,λ a p=> ?_,?_⟩⟩
  ·obtain ⟨o,aD⟩:=X.3.gW p;exact ahK.mp λ q=>no ((u.3 a id q).symm.trans aD.1)
  ·obtain ⟨mm,Bo,_⟩:=X.3.6.5;obtain ⟨o,aH,xu⟩:=X.3.6.6.2.same u id;exact ⟨mm,Ns.same Bo aH xu⟩
end
end
section
noncomputable def Bp:Nat->cn
 | 0=>⟨8,8,8,17⟩ | 1=>⟨8,8,8,26⟩ | 2=>⟨8,27,8,31⟩ | 3=>⟨8,33,8,37⟩ | 4=>⟨8,8,8,38⟩ | 5=>⟨8,8,8,38⟩
 | 6=>⟨9,8,9,12⟩ | 7=>⟨9,8,9,17⟩ | 8=>⟨9,20,9,24⟩ | 9=>⟨9,8,9,24⟩
 | 10=>⟨10,8,10,12⟩ | 11=>⟨10,8,10,15⟩ | 12=>⟨10,18,10,20⟩ | _=>⟨10,8,10,20⟩
noncomputable def Nn (K:dt):Bool:=i2 K 36==[bj "self",bj "what",bj "at"]&&findIn K (.ref 59) "__init__"==some (some (.ref 36))&&oe K (.ref 36)==some (.type "function")&&findIn K (.ref 59) "__setattr__"==some (some (.builtin "object.__setattr__"))&&(wO K 59).any (λ a=>a.mro== .ref 59::hq 46)&&zu K 59&&findIn K (.ref 59) "what"==some none&&findIn K (.ref 59) "at"==some none&&vp (p2 K 36 [.none]) [.none]&&decide ((bq.of (dX K 36).scope).names=[bj "self",bj "what",bj "at"]/\ (bq.of (dX K 36).scope).kind "self"=some .local/\ (bq.of (dX K 36).scope).kind "what"=some .local/\ (bq.of (dX K 36).scope).kind "at"=some .local/\ (bq.of (dX K 36).scope).kind "Exception"=some .globalImplicit)
noncomputable abbrev Np (K:dt):Prop:=iV (Bk K 59 (hq 46)=true) (Nn K=true) (jI K 36=vt Bp) (Dz K (.type "Exception") (.type "type") "__init__"=some (.val (.builtin "Exception.__init__")))
variable {W:a0} {P:eg}
theorem Nq (K:dR W) (G:xX W.K) (X:Np W.K) (a:W.G=gu) (b:W.gl=ib) (c:nj W "Exception" (.type "Exception")):rG W 59 46 36 (dX W.K 36) Bp (p2 W.K 36 [.none]):=by
 have F:=Bj (t:=⟨36,2,0,[.none],[]⟩) K.6.3 b (G.Bi (ix _ (.head _)));obtain ⟨o,aD⟩:=ζ X.1;refine fc X.2 λ h d=>fc h λ h e=>fc h λ h f=>fc h λ h g=>fc h λ h i=>fc h λ h j=>fc h λ h k=>fc h λ h l=>fc h λ cM m=> ?_;have D:=of_decide_eq_true d;rw [show jI W.K 36=vt Bp from X.3,show i2 W.K 36=[("self":aW),"what","at"] from ed cM] at F;exact ⟨congrFun a _,⟨o,K.6.3 _ _ aD.1,aD.2⟩,ed m,ed l,ed k,j,i,ed g,ed f,F,FC e,D.1,D.2.1,D.2.2.1,D.2.2.2.1,D.2.2.2.2,c,rfl,X.4⟩
end
section
theorem Ψ:(Manifest.canonical "BaseException.__getattribute__" !="object.__getattribute__")=false:=by decide+kernel
theorem Nr:Slot "Exception" "__getattribute__" "BaseException.__getattribute__":=PySem.F.attrBase_Exception.ga
section
variable {prog:gi} {w:fp} {A:c8} {E:cA} {h:a3} {g:Array zH} {d:Drawn} {t:Nat} {os:oc} {s:a4} {K:dt}
variable {nm q:aW} {C N dy x:ak} {bs bm:cH} {hdct:Bool} {sn:bZ} {sub:cH} {ab:Bool} {col:Option Bool} {dd:Option ak} {k0 k1 k2 k3 k5:Option aE}
theorem Ω {M:wC} {a:aE} {Q:Unit->a4->Prop} (b:h.get? C=some (pA nm q C N bs (hq dy) hdct sn sub ab col dd k0 k1 k2 k3 k5 "Exception.__new__"))
  (c:h.get? x=some c7) (aI:c7.cls= .ref C) (e:Q () ⟨h,g,d,t,os⟩):aR M A (zT "BaseException.__getattribute__" ⟨[.ref x,a],[]⟩) Q E ⟨h,g,d,t,os⟩:=by
 have f:=PySem.F.args_bexc_ga (.ref x) a;unfold zT;rw [(by decide+kernel:builtinKind "BaseException.__getattribute__"=some .slot),(by decide+kernel:splitId "BaseException.__getattribute__"=some ("BaseException","__getattribute__"))]
 dsimp only;refine aG ?_
 ·unfold Ih
  repeat (first | (with_reducible refine qK c ?_;rw [aI]) | (with_reducible refine zU b ?_;rw [(rF (C:=C) (dy:=dy) "BaseException" true (by decide+kernel))]) | wp_step)
  exact e
theorem aaa {dT:dq} {b:Option dq} {v:aE} {a:Bool} (c:s.heap.get? C=some (pA nm q C N bs (hq dy) hdct sn sub ab col dd k0 k1 k2 k3 k5 "Exception.__new__"))
  (X:K.In s.heap) (I:sz s.heap x dT C b) (d:findIn K (.ref C) "__getattribute__"=some (some (.builtin "BaseException.__getattribute__"))) (e:findIn K (.ref C) "__getattr__"=some none)
  (f:findObj K C b name=some (.value v)) (g:uk v=true) (h:Q v {s with toks:=s.toks+1}):aR (aX prog w) A (getAttr (.ref x) name a) Q E s:=by
 have qO:=I.type (M:=aX prog w);unfold getAttr getAttrBy;refine aG (wpAny_mkText (eb (aG (qO.at (aG ((sG (M:=aX prog w) X d).at ?_))))));dsimp only;rw [(by decide+kernel:(wo "BaseException.__getattribute__"==wo "object.__getattribute__")=false),Bool.and_false]
 simp only [zA,if_false];unfold getAttrByItsOwn;refine aG ((sG (M:=aX prog w) X e).at ?_);refine aG (wpAny_attempt ?_);refine eb ?_;have i:(a&&onTheHeap (wo "BaseException.__getattribute__"))=false:=by cases a<;>rfl
 unfold callGetattribute;rw [i];simp only [zA,if_false];unfold boundAndCalled;rw [Nr.bind (.ref x)];refine aG (bl (wH (IW Nr.plain PySem.F.entry_bexc_ga (Ω c I.at_ I.cls ?_))));refine aG (bl (aG (bl (aG (qO.at (aG ((looks_find (M:=aX prog w) X I f).at ?_)))))));refine bl ?_;show aR _ _ (handedOut v) _ _ _;rw [handedOut_of g];exact bl h
theorem aac {dT:dq} {c:Option dq} {f:ak} {gC:Sem Bool} {Q:aE×cH->a4->Prop} (X:K.In s.heap) (I:sz s.heap x dT C c) (d:findIn K (.ref C) "__getattribute__"=some (some (.builtin "BaseException.__getattribute__"))) (ao:findIn K (.ref C) "__getattr__"=some none)
  (g:findIn K (.ref C) name=some (some (.ref f))) (b8:oe K (.ref f)=some (.type "function")) (i:shadowIn c name=some false) (h:Q (.ref f,[.ref x]) s):
  aR (aX prog w) A (uC (.ref x) name gC) Q E s:=by
 unfold uC specialOf;refine aG (aG (I.type.here ((sG X d).here ?_)));dsimp only;rw [Ψ,if_neg (by decide)]
 refine aG (aG (I.type.here ((sG X ao).here ?_)));refine aG (aG (I.type.here ((sG X g).here (aG ((looks_typeIn X b8).here ?_)))));rw [if_neg (by decide+kernel)]
 refine aG (C7 I.at_ ?_);have hd:=I.dict;cases e:dT.dict with
 | none=>exact aG (wm (bl h))
 | some dx=>
  cases c with
  | none=>rw [e] at hd;exact hd.elim
  | some o=>
   rw [e] at hd;obtain ⟨r,a,b⟩:=iv.mp i;refine aG (aG (C7 hd ?_));rw [nsLook_of a];refine bl ?_;rw [b];exact aG (wm (bl h))
end
end
section
section
variable {W:a0} {r:Nat} {c:bq} {env:b0} {A:c8} {fr outer:List b0} {l a7:cq} {H aa:ag} {h h':a3} {s s':a4} {E:cA}
theorem ajk (K:dR W) (R:dU W c env H l s.heap) (S:b4 W H s) {u:aE} (ao:c.kind x=some .globalImplicit) (d:nj W x u) (q:Q u s):
  aR (aX W.prog W.w) A (zI env x) Q E s:=by
 rw [SV R.2 ((R.kindOf x).trans ao)];have b:=bW.ji (s:=s) K S.1;unfold SW;rw [R.3,R.4];rcases d with a | ⟨a,jF,f,g⟩
 ·exact aG ((zJ b a).here (bl q))
 ·refine aG ((zJ b a).here (aG ?_));obtain ⟨o,es,ep,e,r⟩:=f;refine SX ⟨o,es,ep,S.1.2 _ _ e,r⟩ ?_;rw [g];exact bl q
theorem aad (R:dU W c env H l s.heap) {p:cn} (hd:x≠("__debug__":aW)) (a:Var c x i) (k:c.kind x=some .local) (b:l[i]? =some (some bg)) (q:∀v,bt W.G s.heap v bg->Q v s):
  aR (aX W.prog W.w) A (eval (.Name x p) env) Q E s:=by
 obtain ⟨m,d,f⟩:=R.6.5;obtain ⟨v,e,g⟩:=f i x bg a.1 k b;exact rt hd (IX R.2 ((R.kindOf x).trans k) d e (q _ g))
theorem zeros {dp:cn} {k1 k2 k3:Nat} (S:b4 W H s) (q:∀v s',b4 W H s'->(∀b o,s.heap.get? b=some o->s'.heap.get? b=some o)->bt W.G s'.heap v (.tup [.int 0,.int 0])->Q v s'):
  aR (aX W.prog W.w) A (eval (.Tuple [.Constant (.int 0) k1 dp,.Constant (.int 0) k2 eU] k3 hS) env) Q E s:=by
 rw [arm_eval_Tuple];refine aG (fA (aG ?_));show aR _ _ (spliced ((false,if false=true then _ else eval (.Constant (.int 0) k1 dp) env)::px hS (nc [.Constant (.int 0) k2 eU] env))) _ _ _
 refine S4 ?_;rw [if_neg (by decide)]
 refine S5 ?_;show aR _ _ (spliced ((false,if false=true then _ else eval (.Constant (.int 0) k2 eU) env)::px hS (nc [] env))) _ _ _
 refine S4 ?_;rw [if_neg (by decide)]
 refine S5 ?_;refine S3 ?_;refine SE ?_ (by rw [jX];simp)
 have a:∀b o,s.heap.get? b=some o->(s.heap.push {cls:= .type "tuple",data:= .seq #[.int 0 s.toks,.int 0 (s.toks+1)]}).get? b=some o:=λ b o e=>dP _ e;refine q _ _ ⟨S.1.grow a,S.2,S.3⟩ a ?_;exact .tup (hc _ rfl) ⟨rfl,rfl⟩ rfl (.cons (.int _ _) (.cons (.int _ _) .nil))
end
end
section
noncomputable def x6 (p:Nat->cn) (k:Nat->Nat) (rest:List fT):List fT:=
 .If (.Compare (.Attribute (.Name "self" (p 0)) "at" (p 1)) [.Is] [.Constant .none (k 0) (p 2)] (p 3)) [.Return (some (.Tuple [.Constant (.int 0) (k 1) (p 4),.Constant (.int 0) (k 2) (p 5)] (k 3) (p 6))) (p 7)] [] (p 8)::rest
noncomputable abbrev x7 (W:a0) (C nN:ak) (fd:lI) (p:Nat->cn) (k:Nat->Nat) (rest:List fT):Prop:=eT (W.G .Ju= .ref nN) (findIn W.K (.ref C) "__getattribute__"=some (some (.builtin "BaseException.__getattribute__"))) (findIn W.K (.ref C) "__getattr__"=some none) (findIn W.K (.ref C) "told"=some (some (.ref nN))) (oe W.K (.ref nN)=some (.type "function")) (gR (rE W nN fd (x6 p k rest) ([("self":aW)]) 1 []) ((bq.of fd.scope).names=[("self":aW)]) ((bq.of fd.scope).kind "self"=some .local))
section
variable {W:a0} {r:Nat} {c:bq} {env:b0} {A:c8} {fr outer:List b0} {l a7:cq} {H aa:ag} {h h':a3} {s s':a4} {E:cA}
theorem is_none {M:wC} (h:Q (.bool true) s):aR M A (od .Is .none .none) Q E s:=λ _ _ _=>h
theorem aae (K:dR W) {a:ak} {body:List fT} {bu:bZ} {n:Nat} {vs:cH} {kB as:aV} {R:ps->a4->Prop}
  (F:rE W a fd body bu n e2) (hd:dQ W.G W.h0 e2 kB) (g:as.length=n) (h:A.depth<=950) (S:b4 W H s) (c:dQ W.G s.heap vs as)
  (v:∀env b6,dU W (bq.of fd.scope) env H (oM (bq.of fd.scope).names bu (as++kB)) b6.heap->b4 W H b6->(∀b o,s.heap.get? b=some o->b6.heap.get? b=some o)->
   aR (aX W.prog W.w) (A.deeper env) (uE body env) (λ f s'=>R (.ok (.ret (match f with | .ret v=>v | _=> .none))) s') (λ _ _=>False) b6):
  jc (aX W.prog W.w) A (.call (.ref a) ⟨vs,[]⟩) R s:=by
 obtain ⟨o,aD⟩:=F.1;have i:∀x∈bu.zip (vs++e2),fd.scope.names.lookup x.1=some .local∨(fd.scope.names.lookup x.1=some .cell/\ ((zR (s.heap.objs.size+1) fd.scope.names []).lookup x.1).isSome=true):=λ x j=>
  (F.6.6.4 _ (S1 (a:=x.1) (b:=x.2) j).1).imp id λ q=>⟨q,Fm _ _ _ (.inl (mem_of_lookup q))⟩
 refine ah0 (bB (ug h) (by decide)) (S.1.2 _ _ aD.1) aD.2 F.6.3 F.6.4 F.2 (F.6.1.keeps S.1.2) ((kp_binds (bW.ji (s:=s) K S.1) (F.6.6.6 vs (c.length.trans g)):BindsTo s fd ⟨vs,[]⟩ (bu.zip (vs++e2))) _ _ _ _ ?_)
 rw [F.3];refine ah1 F.6.2 i λ env k b6 x=> ?_;subst k;refine ⟨(K.6.4.keeps S.1.2).keeps x.toInCall.keep,codeAny_func ?_⟩;have d:InCallC s (gQ fd s.heap.objs.size a).locals (zP (gQ fd s.heap.objs.size a).kindOf (bu.zip (vs++e2)) λ _=>none) (gQ fd s.heap.objs.size a).cells (zQ (gQ fd s.heap.objs.size a).kindOf (bu.zip (vs++e2)) λ _=>none) b6:=x;have e:=x.toInCall.keep;exact cL (v _ b6 (L8 F S.1 (c.append (hd.stays (.of_keep S.1.2))) d) (d.done.elim λ J z=>z.elim λ tk z=>⟨S.1.grow e,z.1▸S.2,z.1▸S.3⟩) e) (λ _ _ z=>z) λ _ _ z=>z.elim
theorem aaf (K:dR W) {C nN:ak} {vv:lI} {p rH:Nat->cn} {x8:Nat->Nat} {rest:List fT} (O:rG W C dy hY fd p e2) (T:x7 W C nN vv rH x8 rest) {d:ak}
  (i:A.depth<=950) (S:b4 W H s) (j:s.heap.get? e=some c7) (k:c7.cls= .ref C) (l:zt c7=true) (n:c7.dict=some d) (r:s.heap.Ns1 d m) (t:m "at"=some .none)
  (q:∀v s',b4 W H s'->(∀b o,s.heap.get? b=some o->s'.heap.get? b=some o)->bt W.G s'.heap v (.tup [.int 0,.int 0])->Q v s'):
  aR (aX W.prog W.w) A (call (.ref nN) [.ref e]) Q E s:=by
 obtain ⟨J,w,⟨⟨nm,L,N,bs,hdct,sn,sub,ab,col,dd,k0,k1,k2,k3,k5,rfl⟩⟩⟩:=O.2;refine wH (aae (as:=[.ref e]) (kB:=[]) K T.6.1 .nil rfl i S (.cons (.ref e) .nil) λ env b6 R c a=> ?_);have x:oM (bq.of vv.scope).names [("self":aW)] ([.ref e]++[])=[some (.ref e)]:=by rw [T.6.2];rfl
 rw [x] at R;obtain ⟨f,es,ep,g,y,z⟩:=r;have h:=a _ _ g;unfold x6;refine uF (wpAny_If (ahM ?_ rfl));rw [ahN,show wL (.Name "self" (rH 0)) "at" env (eval (.Name "self" (rH 0)) env)=eval (.Name "self" (rH 0)) env from rfl];refine aG (aad R (by decide) (show Var _ "self" 0 from ⟨T.6.2▸rfl⟩) T.6.3 rfl λ u B=> ?_)
 obtain rfl:u= .ref e:=B.inv;refine aG (fA (aG (eb (aaa (s:=⟨b6.1,b6.2,b6.3,b6.4,b6.5⟩) (c.1.2 C _ w) (bW.ji (s:=b6) K c.1) (⟨(a _ _ j),k,l,by rw [n];exact h⟩:sz b6.heap e c7 C (some f)) T.2 T.3 (findObj_own O.6.2 O.6.4 rfl (by rw [AD ((⟨f,es,ep,a _ _ g,y,z⟩:b6.heap.Ns1 d m):b6.heap.Ns1 d m) h,t])) rfl ?_))))
 refine aG (ahO (bl ?_));refine ahL ?_;refine is_none (Il ?_);rw [if_pos rfl];refine uF (Te (zeros (c.tok _:b4 W H ⟨b6.1,b6.2,b6.3,b6.4+1,b6.5⟩) λ v s' D F G=> ?_));exact q v s' D (λ b o I=>F b o (a b o I)) G
end
end
section
noncomputable def Bq (p:Nat->cn) (k:Nat->Nat):List fT:=[.Expr (.Call (.Name "build_pager" (p 0)) [.Name "grammar" (p 1),.Constant (.int 2) (k 0) (p 2)] [] (p 3)) (p 4)]
noncomputable def x9 (p:Nat->cn) (k:Nat->Nat) (rest:List fT):List fT:=
 .Try (Bq p k)
  [.ExceptHandler (some (.Name "GrammarError" (p 5))) (some "error") [.Return (some (.Compare (.Call (.Attribute (.Name "error" (p 6)) "told" (p 7)) [] [] (p 8)) [.Eq] [.Tuple [.Constant (.int 0) (k 1) (p 9),.Constant (.int 0) (k 2) (p 10)] (k 3) (p 11)] (p 12))) (p 13)] (p 14)]
  [] [] (p 15)::rest
noncomputable abbrev Br (W:a0) (vw:ak) (fd:lI) (p:Nat->cn) (k:Nat->Nat) (rest:List fT):Prop:=eT (W.G .DV= .ref vw) (rE W vw fd (x9 p k rest) ([("grammar":aW)]) 1 []) ((bq.of fd.scope).names=[("grammar":aW),"error"]) (∀{r},∃f,nH W r (bq.of fd.scope) (Bq p k) f∧f []=[.ae 0,.aN (.int 2),.call true .om 2,.pop]) ((bq.of fd.scope).kind "error"=some .local) (A2 ((bq.of fd.scope).kind "GrammarError"=some .globalImplicit) ((p 7).endLine=(p 8).line))
section
variable {W:a0} {r:Nat} {c:bq} {env:b0} {A:c8} {fr outer:List b0} {l a7:cq} {H aa:ag} {h h':a3} {s s':a4}
theorem aai (K:dR W) {E:cA} (d:env.scope=c.scope) (f:env.scope.kind= .function) (g:env.globals=W.gl) (h:env.builtins=zv) (S:b4 W H s) {u:aE} (ao:c.kind x=some .globalImplicit) (i:nj W x u) (q:Q u s):
  aR (aX W.prog W.w) A (zI env x) Q E s:=by
 rw [SV f (show env.kindOf x=_ by unfold SU;rw [d];exact ao)]
 have b:=bW.ji (s:=s) K S.1;unfold SW;rw [g,h];rcases i with a | ⟨a,jF,j,k⟩
 ·exact aG ((zJ b a).here (bl q))
 ·refine aG ((zJ b a).here (aG ?_));obtain ⟨o,es,ep,e,r⟩:=j;refine SX ⟨o,es,ep,S.1.2 _ _ e,r⟩ ?_;rw [k];exact bl q
theorem pU.go {P:Prop} {d3:ag} {h₀:a3} {E:ag->Prop} {e:aE} {t:a4} (x:pU W env fr d3 h₀ E e t) (q:∀a aa c7 vs d b,e= .ref a->b4 W aa t->bh W (Pv env) d3 h₀ aa t.heap->j1 W fr aa t.heap->E aa->(∃m,t.heap.Ns env.locals m)->t.heap.get? a=some c7->c7.cls=W.G .jE->c7.dict=some d->c7.data= .fields vs->h₀.get? d=none->t.heap.Ns1 d b->b "at"=some .none->b "told"=none->P):P:=by
 obtain ⟨⟨a,aa,f,S,k,g,⟨c7,vs,d,m,g1,h,i,j,_,_,l,n,c,_⟩,o,_,ns⟩,_⟩:=x;exact q a aa c7 vs d m f S k g o ns g1 h i j l n c.1 c.2
section
variable {C dy hY nN vw:ak} {fd vv ts:lI} {p rH i3:Nat->cn} {x8 tu:Nat->Nat} {rest Bs:List fT} {e2:cH}
theorem aaj (K:dR W) (O:rG W C dy hY fd p e2) (T:x7 W C nN vv rH x8 rest) (L:Br W vw ts i3 tu Bs) {a d:ak} {vs:Array aE} {mm f:aW->Option aE} {Q:qJ->a4->Prop}
  (ao:env.scope.kind= .function) (w:env.kindOf "error"=some .local) (y:A.depth<=950) (B:A.units+70<ee) (S:b4 W H s) (D:s.heap.Ns env.locals mm) (E:mm "error"=some (.ref a))
  (i:s.heap.get? a=some c7) (j:c7.cls= .ref C) (k:c7.dict=some d) (F:c7.data= .fields vs) (g:s.heap.Ns1 d f) (G:f "at"=some .none) (I:f "told"=none)
  (q:∀s',b4 W H s'->(∀b o,s.heap.get? b=some o->s'.heap.get? b=some o)->Q (.ret (.bool true)) s'):
  aR (aX W.prog W.w) A (uE [.Return (some (.Compare (.Call (.Attribute (.Name "error" (i3 6)) "told" (i3 7)) [] [] (i3 8)) [.Eq] [.Tuple [.Constant (.int 0) (tu 1) (i3 9),.Constant (.int 0) (tu 2) (i3 10)] (tu 3) (i3 11)] (i3 12))) (i3 13)] env) Q ba s:=by
 refine uG g λ l z=>uG z λ es z=>uG z λ ep z=> ?_;have m:=bW.ji (s:=s) K S.1;have n:zt c7=true:=by unfold zt;rw [F]
 refine uF (Te (wpAny_Compare1 ?_ rfl));refine (S7 ..)▸?_;refine aG (rt (W:=W) (by decide) (IX ao w D E (aG (fA ?_))))
 unfold S8;refine (E4 (eV.nil (W:=W) (r:=0) (c:=bq.of ts.scope)) (i3 8) (by decide:0<20))▸?_
 refine aG (eb ?_);show aR _ _ (uC (.ref a) "told" _) _ _ _;refine aac m (⟨i,j,n,k▸z.1⟩:sz s.heap a c7 C (some l)) T.2 T.3 T.4 T.5 (by show (lookIn _ l).map _=_;rw [AD g z.1,I];rfl) (aG ?_)
 refine (show S9 true (.Name "error" (i3 6)) env (i3 7) (i3 8)=pure (i3 8) from if_pos (show (false||(i3 7).endLine==(i3 8).line)=true from beq_iff_eq.mpr L.6.2)).symm▸bl ?_;refine callWith_of (P:=λ h=>W.K.In h) rfl (λ h x=>T.1▸AX K .Ju h x) ?_;refine Lp rfl (S3 ⟨m,?_⟩);refine aaf K O T y S i j n k g G λ U V lU J M=>zeros lU λ X N t u R=> ?_;have v:∀x∈[ai.int 0,ai.int 0],d1 4 x:=kg.mpr ⟨.int,kg.mpr ⟨.int,λ _ h=>(by cases h)⟩⟩
 exact (El t (Q:=λ c=>c=true) B (M.stays (.of_keep u)) R (.tup ⟨v,v⟩ (decide_eq_true rfl))).1 λ c aI=>aI▸q N t λ b o e=>u b o (J b o e)
theorem aao (O:rG W C dy hY fd p e2) (S:b4 W H s) {Q:Bool->a4->Prop} (cM:s.heap.get? e=some c7) (a:c7.cls= .ref C) (q:Q true s):aR (aX W.prog W.w) A (excMatches (.ref e) (.ref C)) Q ba s:=by
 obtain ⟨o,b,⟨⟨nm,d,N,bs,hdct,sn,sub,ab,col,dd,k0,k1,k2,k3,k5,c⟩⟩⟩:=O.2;refine wpAny_excMatches_sub_self (c▸S.1.2 C _ b) cM a ?_ q;unfold hq;rw [To,show (wG "BaseException"==kQ dy)=false from rfl,Tp];decide+kernel
theorem aap (x:mJ W H h b):Own W H h b:=by
 obtain ⟨c,d,f,o,e,es,n,a⟩:=x;exact ⟨c,d,o,e,(λ _ _ q=>e4 (a.symm.trans q)),λ _ q=>e4 (a.symm.trans q)⟩
theorem aaq (x:Own W H h b) (c:h'.Ns b m) (nm:¬d2 H h' b):Own W H h' b:=by
 obtain ⟨cM,_⟩:=x;obtain ⟨o,es,ep,d,a,_⟩:=c;exact ⟨cM,nm,o,d,(λ _ _ q=>e4 (a.symm.trans q)),λ _ q=>e4 (a.symm.trans q)⟩
theorem aar (x:mJ W H h b) {vs:Array aE} (a:h.get? e=some c7) (c:c7.data= .fields vs):e≠b:=λ w=>by
 obtain ⟨_,_,_,o,d,es,n,f⟩:=x;exact e4 (c.symm.trans (congrArg Th (dC a (w▸d))▸f))
theorem aas (K:dR W) (k:∃c,W.G .jE= .ref c) (O:rG W C dy hY fd p e2) (T:x7 W C nN vv rH x8 rest) (L:Br W vw ts i3 tu Bs) {g:ai} {Q:qJ->a4->Prop} {l:ag->Prop}
  (h:At W r (bq.of ts.scope) env A (env::outer) [some g,none] H s) (G:tl W env outer) (tq:A.depth<=950) (v:dw W r .om [g,.int 2] H (λ _ _=>False) l)
  (q:∀aa s',l aa->b4 W aa s'->bh W (Pv env) H s.heap aa s'.heap->Q (.ret (.bool true)) s'):aR (aX W.prog W.w) A (uE (x9 i3 tu Bs) env) Q ba s:=by
 have d:=h.3;have m:∀x,env.kindOf x=(bq.of ts.scope).kind x:=d.kindOf;have I:(env.scope.kind== .class||(env.scope.kind== .module&&env.locals !=env.globals))=false:=by rw [d.2];rfl
 refine uF (wpAny_Try_except ?_);refine uG (L.4 (r:=r)) λ f0 J=> ?_;refine cL (J.1 h G (J.2▸v:runs W r l (f0 []) [] [some g,none] H (λ _ _ _ _=>False))) (λ f s2 z=>False.elim ?_) λ e s2 z=> ?_
 ·obtain ⟨cy,_,_,_,_,_,_,z⟩:=z;cases cy<;>exact z
 refine cL (Fh k _ _ _ _ _ _ _ _ h.1.4 h.2.1.2 z) (λ _ t1 y=> ?_) λ _ _ z=>z.elim;refine Bf k h.2.1.2 y λ t2 M=>M.go λ N dG c7 _ _ _ n P _ _ _ _ cM da _ _ _ _ _ _=> ?_;subst n;refine wpAny_handleBy_cons (codeAny_handlers_test ?_) (λ q=>(by cases q))
 refine rt (W:=W) (by decide) (aai K d.1 d.2 d.3 d.4 P L.6.1 (K.3 "GrammarError" .jE (by kernel_rfl)) ?_)
 refine O.1.symm▸aao O P cM (da.trans O.1) ?_;refine (if_pos rfl:(if true=true then _ else _)=_)▸?_
 refine codeAny_handlers_suite_as ?_;refine Bf k h.2.1.2 M λ t bI=>bI.go λ L3 i ajm ajn R aat n u x3 aau aav aaw S b2 di U rr tg tv FN=> ?_;obtain rfl:N=L3:=wM n;refine uG aaw λ aax Nz=>ahH ((m _).trans L.5) Nz (λ j B D=> ?_) I;have V:mJ W i t.heap env.locals:=aau.at u.1 ⟨env,.head _,G.1⟩;have X:=aap V;have E:=X.write u.1 (h':=j) λ b o F e=>(D.2 b F).trans e;have Y:b4 W i {t with heap:=j,toks:=t.toks+1}:=u.heap E.1 _;have aay:R≠env.locals:=λ w=>by
  obtain ⟨_,_,o,aH,_⟩:=d.6.6.2;exact no (rr.symm.trans (w▸aH))
 refine aaj (mm:=λ x=>if x=("error":aW) then some (kQ N) else aax x) K O T L d.2 ((m _).trans L.5) tq (show A.units+70<ee from h.units) Y B (if_pos rfl) ((D.2 _ (aar V S U)).trans S) (b2.trans O.1) di U (tg.elim λ o z=>z.elim λ es z=>z.elim λ ep z=>⟨o,es,ep,(D.2 _ aay).trans z.1,z.2⟩:j.Ns1 R aat) tv FN λ Z yb yc=> ?_
 refine wpAny_nameGoes (s:=Z) ((m _).trans L.5) (B.keeps yc) I λ hD ajo ajp aaz=> ?_;have NC:bh W cT i j i Z.heap:=bh.grows Y.1 _ yc;have ND:=((aaq X B E.3).keep NC id).write yb.1 (h':=hD) λ b o F e=>(aaz.2 b F).trans e;exact q i _ aav (yb.heap ND.1 _) ((((x3).trans (E.2.weak λ a w=> .inl w)).trans NC.gI).trans (ND.2.weak λ a w=> .inl w))
theorem aaA (K:dR W) (O:rG W C dy hY fd p e2) (T:x7 W C nN vv rH x8 rest) (L:Br W vw ts i3 tu Bs)
  {g:ai} {Q:KE} {E a:ag->Prop} (v:dw W r .om [g,.int 2] H (λ _ _=>False) a) (q:∀aa,a aa->Q (.bool true) aa):dw W (r+1) .DV [g] H Q E:=by
 intro A fr s vs R S h;have d:∃c,W.G .jE= .ref c:=⟨_,O.1⟩;refine L.1.symm▸Fo (kB:=[]) K d L.2 .nil rfl R S h λ b6 X=> ?_;have i:oM (bq.of ts.scope).names [("grammar":aW)] ([g]++[])=[some g,none]:=by rw [L.3];rfl
 exact aas K d O T L (i▸X.1) X.2 (bB (bB (fJ _ _) (Fn R.1).2) (by decide)) v λ f l e j k=>⟨.bool true,f,j,bh.qW (P':=Pv _) ((bh.grows S.1 cT X.3).gI.trans k) λ b p=> .inr (X.4 b p),.bool true,q f e⟩
end
end
end
section
noncomputable def Bu:Nat->cn
 | 0=>⟨13,11,13,15⟩ | 1=>⟨13,11,13,18⟩ | 2=>⟨13,22,13,26⟩ | 3=>⟨13,11,13,26⟩ | 4=>⟨14,20,14,21⟩ | 5=>⟨14,23,14,24⟩ | 6=>⟨14,19,14,25⟩ | 7=>⟨14,12,14,25⟩ | _=>⟨13,8,14,25⟩
noncomputable def vx:Nat->cn
 | 0=>⟨408,8,408,19⟩ | 1=>⟨408,20,408,27⟩ | 2=>⟨408,29,408,30⟩ | 3=>⟨408,8,408,31⟩ | 4=>⟨408,8,408,31⟩ | 5=>⟨409,11,409,23⟩ | 6=>⟨410,15,410,20⟩ | 7=>⟨410,15,410,25⟩ | 8=>⟨410,15,410,27⟩
 | 9=>⟨410,32,410,33⟩ | 10=>⟨410,35,410,36⟩ | 11=>⟨410,31,410,37⟩ | 12=>⟨410,15,410,37⟩ | 13=>⟨410,8,410,37⟩ | 14=>⟨409,4,410,37⟩ | _=>⟨407,4,410,37⟩
noncomputable def NE (K:dt):Bool:=i2 K 43==[bj "self"]&&findIn K (.ref 59) "__getattribute__"==some (some (.builtin "BaseException.__getattribute__"))&&findIn K (.ref 59) "__getattr__"==some none&&findIn K (.ref 59) "told"==some (some (.ref 43))&&oe K (.ref 43)==some (.type "function")&&i2 K 430==[bj "grammar"]&&decide ((bq.of (dX K 43).scope).names=[bj "self"]/\ (bq.of (dX K 43).scope).kind "self"=some .local/\ (bq.of (dX K 430).scope).names=[bj "grammar",bj "error"]/\ (bq.of (dX K 430).scope).kind "error"=some .local/\ (bq.of (dX K 430).scope).kind "GrammarError"=some .globalImplicit)
noncomputable abbrev aaC (K:dt):Prop:=iV (NE K=true) ((jI K 43).head? =(x6 Bu (λ _=>0) []).head?) ((jI K 430).head? =(x9 vx (λ _=>0) []).head?) (∀{W:a0} (a:dR W) (kA:rB W) r,(rC a kA r (bq.of (dX K 430).scope) (Bq vx λ _=>0)).map (λ x=>x.f [])=some [.ae 0,.aN (.int 2),.call true .om 2,.pop])
theorem head_tail {α:Type} {l:List α} {a:α} (h:l.head? =some a):l=a::l.tail:=by
 cases l with
 | nil=>exact (by cases h)
 | cons b l=>exact congrArg (· ::l) (dA h)
noncomputable abbrev vy (K:dt):Prop:=gR (xX K) (Np K) (aaC K)
noncomputable def vz (w:fp) (h:a3) (os:oc) (K:dt):a0:=⟨qL.prog,w,gu,ib,h,os,K⟩
theorem aaD (C:xT K) (w:fp) (h:a3) (os:oc) (X:K.In h) (x:aW) (v:ai) (e:Ej.lookup x=some v):∃u,nj (vz w h os K) x u∧bt gu h u v:=by
 have m:=Tn e;rcases dZ.mp m with m | m
 ·cases m;have c:=C.5;unfold Fv at c;cases q:kh K ib (bj "END") with
  | none=>rw [q] at c;exact absurd c fS
  | some o=>
   rw [q] at c;cases o with
   | none=>exact absurd c fS
   | some v=>exact (isInt_shape c).elim λ t z=>⟨v,.inl q,z▸.int 0 t⟩
 ·rcases dZ.mp m with m | m
  ·cases m;exact ⟨_,.inl (Bh (G:=gu) X C.6.1).1,(Bh X C.6.1).2⟩
  ·cases b3.mp m;exact ⟨_,.inl (Bh (G:=gu) X C.6.2).1,(Bh X C.6.2).2⟩
theorem aaE {w:fp} (C:xT K) (a:K.In b6.heap) (T:Top p loose yd rJ jF b6.heap):dR (vz w b6.heap b6.os K):=by
 refine ⟨k_cls C,k_handed,λ x g e=>(Yz C x g e).imp id λ z=>⟨z.1,jF,T.b,(T.builtins _ z.2.2).trans z.2.1⟩,aaD C w _ _ a,Mh,Yx C,Yy C,a,T.nolimit,?_⟩;obtain ⟨_,⟨o,_,_,b,_⟩,_⟩:=T.nodigits;exact ⟨_,o,b,by decide⟩
structure tw (W:a0) (P:eg):Prop extends Base W P where
 exc:nj W "Exception" (.type "Exception")
 all:vy W.K
theorem aaF {w:fp} (A:vy K) (b:kh K ib "Exception"=some none) (c:K.In b6.heap) (T:Top p loose yd rJ jF b6.heap):tw (vz w b6.heap b6.os K) w.params:=by
 have K':=aaE (w:=w) A.1.1 c T;have a:nj (vz w b6.heap b6.os K) "Exception" (.type "Exception"):= .inr ⟨b,jF,T.b,(T.builtins _ (by decide)).trans (by decide+kernel)⟩
 exact ⟨⟨K',A.1,rfl,rfl,Φ K' (Nq K' A.1 A.2 rfl rfl a)⟩,a,A⟩
section
variable {W:a0} {P:eg}
theorem NF (K:dt) (a:ak):p2 K a []=[]:=Tb
theorem aaG (B:tw W P):x7 W 59 43 (dX W.K 43) Bu (λ _=>0) (jI W.K 43).tail:=by
 have F:=Bj (t:=⟨43,1,0,[],[]⟩) B.lY.6.3 B.gl (B.k.Bi (ix _ (.tail _ (.head _))));refine fc B.all.3.1 λ h d=>fc h λ h f=>fc h λ h a=>fc h λ h b=>fc h λ h c=>fc h λ cM e=> ?_;have D:=of_decide_eq_true d;rw [show jI W.K 43=x6 Bu (λ _=>0) (jI W.K 43).tail from head_tail B.all.3.2,show i2 W.K 43=[("self":aW)] from ed cM,NF] at F;exact ⟨congrFun B.g _,ed e,ed c,ed b,ed a,F,D.1,D.2.1⟩
theorem aaH (B:tw W P):Br W 430 (dX W.K 430) vx (λ _=>0) (jI W.K 430).tail:=by
 have F:=Bj (t:=⟨430,1,1,[],[]⟩) B.lY.6.3 B.gl (B.k.Bi (ix _ (.tail _ (.tail _ (.head _)))));refine fc B.all.3.1 λ h d=>fc h λ h a=> ?_;have D:=of_decide_eq_true d;rw [show jI W.K 430=x9 vx (λ _=>0) (jI W.K 430).tail from head_tail B.all.3.3,show i2 W.K 430=[("grammar":aW)] from ed a,NF] at F;exact ⟨congrFun B.g _,F,D.2.2.1,λ {r}=>(iv.mp (B.all.3.4 B.lY B.rs r)).elim λ x z=>⟨x.f,x.ok,z.2⟩,D.2.2.2.1,D.2.2.2.2,rfl⟩
theorem aaI (B:tw W P) {r:Nat} {g:ai} {H:ag} {Q:KE} {E a:ag->Prop} (v:dw W r .om [g,.int 2] H (λ _ _=>False) a) (q:∀aa,a aa->Q (.bool true) aa):dw W (r+1) .DV [g] H Q E:=
 aaA B.lY (Nq B.lY B.k B.all.2 B.g B.gl B.exc) (aaG B) (aaH B) v q
end
end
theorem aaJ {G:aP->aE} {h:a3} {vs:cH} {ns:List Int} (x:IntsAre vs ns):dQ G h vs (ns.map .int):=by
 induction x with
 | nil=>exact .nil
 | cons n t _ ih=>exact .cons (.int n t) ih
def FQ:Prop:=∀(W:a0) (P:eg),tw W P->∀(L:ak) (ns:List Int) (H:ag),ns.length<=63->H L=some (.gG (ns.map .int))->Bg W 30 (.ref 435) [.ref L] H (λ v _=>v= .bool true) mu
theorem aaK {h:a3} {a:ak} {r:Option aE} (X:K.In h) (N:h.Ns a m) (e:kh K a x=some r):m x=r:=by
 unfold kh at e;cases f:K.lookup a with
 | none=>rw [f] at e;exact no e
 | some o=>
 obtain ⟨bw,es,ep,g,hd,ao,i⟩:=N;obtain rfl:=dC (X _ _ f) g;obtain ⟨c,d,j,cZ⟩:=o;obtain rfl:j= .dict es ep:=hd;rw [f] at e;dsimp only at e;rw [<- i x];unfold nsFind findBy;rw [<- ag0];have k:es.toList.any (·.refKey)=false:=by
  rw [Si];intro b l;obtain ⟨n,t,q⟩:=ao b (Io.mp l);simp [ag1,q]
 cases q:es.toList.find? (λ e=>e.key.isStr x) with
 | some b=>rw [q] at e;dsimp only at e;cases e;rfl
 | none=>rw [q] at e;dsimp only at e;rw [k] at e;cases e;rfl
theorem aaL (l:FQ) {f L:ak} {g:cH} {ns:List Int} {R:ps->a4->Prop}
  (n:vy K) (c:kh K ib "Exception"=some none) (r:kh K ib "law"=some (some (.ref 435))) (h:K.In b6.heap) (T:Top p loose yd rJ jF b6.heap) (s:rJ "law"=some (.ref f)) (t:b6.heap.IsList L g.toArray) (tc:IntsAre g ns) (u:ns.length<=63) (z:b6.gens= #[])
  (q:∀s',(∀b o,b6.heap.get? b=some o->s'.heap.get? b=some o)->s'.os=b6.os->s'.gens= #[]->R (.ok (.ret (.bool true))) s'):
  jc (aX qL.row.prog w) callerA (.call (.ref f) ⟨[.ref L],[]⟩) R b6:=by
 have i:rJ "law"=some (.ref 435):=aaK h T.g r;rw [s] at i;cases i;have S:b4 (vz w b6.heap b6.os K) (λ a=>if a=L then some (c5.gG (ns.map .int)) else none) b6:=by
  refine ⟨⟨λ a o e=> ?_,λ b o e=>e,λ a o e m=> ?_,λ x y d q=> ?_⟩,z,rfl⟩
  ·dsimp only at e;split at e
   ·rename_i w;cases e;subst w;exact ⟨_,t,aaJ tc⟩
   ·cases e
  ·dsimp only at e;split at e
   ·cases e;exact m.elim
   ·cases e
  ·obtain ⟨C,fs,dT,j,_⟩:=q
   split at j<;>cases j
 have A:ow (vz w b6.heap b6.os K) 30 callerA [] (λ a=>if a=L then some (c5.gG (ns.map .int)) else none) b6.heap:=by
  refine ⟨by decide,by decide,rfl,rfl,λ e c=>by cases c⟩
 refine wI (l _ _ (aaF (w:=w) n c h T) L ns _ u (if_pos rfl:(λ a=>if a=L then some (c5.gG (ns.map .int)) else none:ag) L=some (.gG (ns.map .int))) callerA [] b6 [.ref L] A S (.cons (.ref L) .nil)) λ B s' y=> ?_
 rcases B with e | (v | _ | _ | _)<;>first | exact y.elim | skip
 ·exact (J7 y).elim
 ·obtain ⟨bg,aa,S',k,D,rfl⟩:=y;have E:_=Value.bool true:=D.inv;subst E;exact q s' S'.1.2 S'.3 S'.2
noncomputable def Bv (a:String->Option Builtin) (p:gi) (w:fp) (b:Nat) (c:Option aE):Nat->uI->Thread->Option uI
 | 0,_,_=>none
 | n+1,s,t=>match through t with
  | true=>some s
  | false=>match stepOk b c t with
   | false=>none
   | true=>match stepT (denote a) p w s t with
    | some (s',t')=>Bv a p w b c n s' t'
    | none=>none
theorem aaM {a:String->Option Builtin} {b:Nat} {c:Option aE}:∀{n:Nat} {s s':uI} {t:Thread},Bv a p w b c n s t=some s'->topRun a p w b c n s.abs t=some s'.abs:=by
 intro n
 induction n with
 | zero=>exact λ h=>no h
 | succ n ih=>
  intro s s' t h;change (match through t with | true=>some s | false=>match stepOk b c t with | false=>none | true=>match stepT (denote a) p w s t with | some (s',t')=>Bv a p w b c n s' t' | none=>none)=some s' at h
  unfold topRun;cases e:through t with
  | true=>rw [e] at h;cases h;rfl
  | false=>
   rw [e] at h;cases ao:stepOk b c t with
   | false=>rw [ao] at h;cases h
   | true=>
    rw [ao] at h;cases d:stepT (denote a) p w s t with
    | none=>rw [d] at h;cases h
    | some r=>rw [d] at h;dsimp only;rw [stepT_spec (s':=r.1) (t':=r.2) d];exact ih h
noncomputable def mL:gi:=qL.row.toRowW.prog
noncomputable def lZ:gi:=view mL ((cg 41).filter λ i=> ![1,5,10,16,24,25,31,32].contains i)
noncomputable def Bw:bZ:=[bj "ToolError",bj "build_canonical",bj "build_pager",bj "plain_grammar"]
noncomputable def FU (s:a4):Bool:=xlAt lZ [] s&&recOk qL.row.toRowW.records s
noncomputable def NH (P:eg) (os:oc):uI:=⟨(pB P).objs.toList.zipIdx.foldl (λ t p=>t.ins p.2 p.1) .nil,11,(pB P).life,I6 [],I7,I8,os⟩
theorem aaN (P:eg) (os:oc):(NH P os).abs=⟨pB P,I6 [],I7,I8,os⟩:=by kernel_rfl
noncomputable def Bx (w:fp) (os:oc):Option uI:=Bv wQ mL w (pB w.params).objs.size ((pB w.params).nsMap ib "__annotations__") 6184 (NH w.params os) (topStub mL)
noncomputable def aaO (w:fp) (s:a4):=(staticsOk (DA mL.main.body) (pB w.params) s.heap&&namesBound mL s.heap&&gensDone s&&laidKept (pB w.params) s.heap,openSeen lZ Bw (DA mL.main.body) FU true s)
theorem aaP {β:Type}:∀{l:List (Nat×β)} {a:Nat} {b:β},l.lookup a=some b->(a,b)∈l:=by
 intro l
 induction l with
 | nil=>exact λ h=>no h
 | cons p l ih=>
  obtain ⟨k,v⟩:=p;intro a b h;rw [uD] at h;cases e:a==k with
  | true=>rw [e] at h;cases h;exact ed e▸.head _
  | false=>rw [e] at h;exact .tail _ (ih h)
noncomputable def ye (s:uI):dt:=(cg s.n).filterMap λ a=>((s.tree.get a).bind mq).map λ o=>(a,o)
theorem aaQ (s:uI):(ye s).In s.abs.heap:=λ a o e=>by
 obtain ⟨b,c,e⟩:=Dl.mp (aaP e:(a,o)∈ye s);obtain ⟨bw,d,f⟩:=iv.mp e;obtain ⟨i,g,h⟩:=SY.mp d;obtain ⟨rfl,rfl⟩:=aie f;exact (abs_get (fK.mp c) g).trans h
noncomputable def lay {β:Type}:dt->(dt->β)->β
 | [],k=>k []
 | (a,⟨c,d,b,cZ⟩)::l,k=>lay l λ l=>k ((a,⟨c,d,b,cZ⟩)::l)
theorem aaR {β:Type}:∀(l:dt) (k:dt->β),lay l k=k l:=by
 intro l
 induction l with
 | nil=>exact λ _=>rfl
 | cons p l ih=>obtain ⟨_,⟨_,_,_,_⟩⟩:=p;exact λ _=>ih _
noncomputable def By (K:dt):Bool:=kh K ib "Exception"==some none&&kh K ib "law"==some (some (.ref 435))
noncomputable def NI (K:dt):Bool:=Mg K&&(lX++tn).all (M3 K)&&FE K&&Bk K 59 (hq 46)&&Nn K&&NE K&&By K
noncomputable def FV (K:dt):=(NI K,(λ S x=>(lX++tn).map (FD K S x)),(λ (W:a0) (a:dR W) (kA:rB W) (r:Nat)=>(lX.map (codeAt a kA r K),(rC a kA r (bq.of (dX K 430).scope) (Bq vx λ _=>0)).map λ x=>x.f [])),jI K 36,Dz K (.type "Exception") (.type "type") "__init__",(jI K 43).head?,(jI K 430).head?)
noncomputable def NJ:Bool×(Setting->(Nat->aE)->List (Option (cH×Bool)))×(∀W:a0,dR W->rB W->Nat->List (Option aJ)×Option aJ)×List fT×Option CFound×Option fT×Option fT:=(true,(λ _ x=>(lX++tn).map λ t=>some (xW t.n x,true)),(λ _ _ _ _=>(lX.map λ t=>some t.code,some [.ae 0,.aN (.int 2),.call true .om 2,.pop])),vt Bp,some (CFound.val (.builtin "Exception.__init__")),(x6 Bu (λ _=>0) []).head?,(x9 vx (λ _=>0) []).head?)
theorem aaS (w:fp) (os:oc):(Bx w os).map (λ s=>aaO w s.abs)=some (true,openGood lZ Bw):=by kernel_rfl
theorem aaT (w:fp) (os:oc):(Bx w os).map (λ s=>lay (ye s) FV)=some NJ:=by kernel_rfl
theorem aaU (h:FV K=NJ):vy K∧By K=true:=
 have a:=congrArg pz h;have c:=congrArg m8 (congrArg pz a);have d:=congrArg pz (congrArg pz a);have e:=congrArg pz d;have f:=congrArg pz e
 fc (congrArg m8 h:NI K=true) λ z g=>fc z λ z i=>fc z λ z j=>fc z λ z k=>fc z λ z l=>fc z λ cM m=>
  ⟨⟨⟨Yw cM,m,λ S x=>congrFun (congrFun (congrArg m8 a) S) x,λ b kA r=>congrArg m8 (congrFun (congrFun (congrFun (congrFun c _) b) kA) r),l⟩,
   ⟨k,j,congrArg m8 d,congrArg m8 e⟩,
   ⟨i,congrArg m8 f,congrArg pz f,λ b kA r=>congrArg pz (congrFun (congrFun (congrFun (congrFun c _) b) kA) r)⟩⟩,g⟩
theorem aaV {b:String->Option Builtin} {N:Nat} {a:a4} (J:(a.heap.isNs ib&&a.gens.size==0)=true) (c:topRun b p w a.heap.objs.size (a.heap.nsMap ib "__annotations__") N a (topStub p)=some b6) (d:(staticsOk (DA p.main.body) a.heap b6.heap&&namesBound p b6.heap&&gensDone b6&&laidKept a.heap b6.heap)=true):I9 b p w N a=some b6:=by
 unfold I9;rw [J];dsimp only;rw [c];show (match _&&_&&_&&_ with | true=>some b6 | false=>none)=_
 rw [d]
theorem aaW {q:gi} {Xt:a4->Bool} {Y:a4->Prop} {N:Nat} {H:a3} {f:Array zH} {d:Drawn} {k:Nat} (e:(fencedOpening wQ p w N).map (λ s=>(s.heap,s.gens,s.drawn,s.toks))=some (H,f,d,k))
  (h:∀os,∃s:a4,I9 wQ p w N ⟨H,f,d,k,os⟩=some s∧openSeen q loose (DA p.main.body) Xt true s=openGood q loose∧Y s):(openEnds wQ p w N).map (λ s=>(openSeen q loose (DA p.main.body) Xt true s,Y s))=some (openGood q loose,True):=by
 obtain ⟨⟨h0,g,i,k0,os⟩,et,c⟩:=iv.mp e;obtain ⟨rfl,rfl,rfl,rfl⟩:h0=H∧g=f∧i=d∧k0=k:=⟨congrArg (·.1) c,congrArg (·.2.1) c,congrArg (·.2.2.1) c,congrArg (·.2.2.2) c⟩;obtain ⟨s,t,a,b⟩:=h os;unfold openEnds;rw [et];show (I9 wQ p w N _).map _=_;rw [t];exact congrArg some (ux a (eq_true b))
theorem aaX (w:fp) (os:oc) {s:uI} (e:Bx w os=some s):topRun wQ mL w (pB w.params).objs.size ((pB w.params).nsMap ib "__annotations__") 6184 ⟨pB w.params,I6 [],I7,I8,os⟩ (topStub mL)=some s.abs:=aaN w.params os▸aaM (by unfold Bx at e;exact e)
theorem map_some {α β:Type} {x:Option α} {a:α} {b:β} {f:α->β} (h:x=some a) (k:x.map f=some b):f a=b:=by subst h;exact dA k
theorem aaY (w:fp):(fencedOpening wQ mL w 6184).map (λ s=>(s.heap,s.gens,s.drawn,s.toks))=some (pB w.params,I6 [],I7,I8):=boot_open (p:=mL) (N:=6184) (by kernel_rfl) (by kernel_rfl) (λ s=>by kernel_rfl) w
theorem aaZ:LeftO mL lZ Bw FU (λ s=>∃K:dt,K.In s.heap∧vy K∧By K=true) (λ _=>True) 6184:=λ w=>aaW (aaY w) λ os=>
 (iv.mp (aaS w os)).elim λ s z=>⟨s.abs,aaV (by kernel_rfl) (aaX w os z.1) (congrArg m8 z.2),congrArg pz z.2,ye s,aaQ s,aaU ((aaR _ _).symm.trans (map_some (f:=λ s=>lay (ye s) FV) z.1 (aaT w os)))⟩
theorem aa0:qL.wellSaid=true:=by kernel_rfl
theorem aa1:(chainsOk lZ&&opensWell mL&&(frees qL.row.toRowW&&qL.row.toRowW.within.isEmpty))=true:=by kernel_rfl
theorem NK:(defOf lZ qL.row.name).isSome=true:=by kernel_rfl
noncomputable def NL:=(defOf lZ qL.row.name).get NK
set_option maxHeartbeats 8000000 in
theorem aa2 (a:FQ):qL.Holds:=by
 refine holds_law aa0 λ b=>holds_open (d:=NL.1) (kwd:=NL.2) (q:=lZ) (loose:=Bw) (Xt:=FU) (XP:=XL lZ []) (YP:=λ _ h=>∃K:dt,K.In h∧vy K∧By K=true) (N:=6184) aaZ (λ w s e=>of_eq_true e) (λ w h h' z k=>z.elim λ K z=>⟨K,z.1.keeps k,z.2⟩) (λ s e=>xl_of s (d6.mp e).1) XL.keeps (Option.some_get NK).symm (by kernel_rfl) (by kernel_rfl) (λ s e=>recFacts_of (d6.mp e).2) (by rfl) b aa1 ⟨rfl,rfl,rfl,rfl,rfl,by decide+kernel⟩ ?hw ?aI
 case hw=>w_witness2
 k_fill
 intro w x b6 rJ jF G Y y o A C doc E F H I L M c f args O as g i j l m;obtain ⟨K,n,p,r⟩:=Y;refine Ground.open G ?_;intro T B D P Q
 wrow_args g i j l m
 all_goals (refine enter_call ?_)
 rename_i J t R;refine fc r λ u v=>aaL a p (ed u) (ed v) n T c (by assumption) (by assumption) (fD λ z=>t (hx.mpr z)) f λ s' k1 k2 k3=>GoodW.toG ?_
 refine ⟨.inl ⟨.bool true,.bool true,[],rfl,raisesW_false ?_,.bool true,?_,unshared_nil⟩,k1,k2,k3⟩
 ·wrow_none_raised
 ·wrow_post
end Mine
end
section
open PySem PySem.W PyProof.Rows PySem.Calls
namespace Mine
variable {O aT l ns wait wl:aw} {Y a d i j m n r s τ:Nat} {B H aa dj e3 en gq:ag} {bw o:c5} {bQ hu nul:cO} {c2 eE eX it re x:ak} {v:Nat->Option Nat} {as:gb} {t:gJ} {A gg:du} {Q:KE} {W:a0} {E aK:ag->Prop} {K K' L fs jJ:aS} {b nR:aJ} {e et p:Bool} {G:au} {st' vs xs:aV} {iK:Cells} {bP es ms:a8} {us:List aw} {st:hs} {D:eC} {aA σ:ck} {S S':SVal} {aZ:List ck} {aj g8:b9} {df:a8->Prop} {M:l8} {c ex:Nat->Prop} {dF:List aS} {fy:aS->Prop}
open Classical
section
noncomputable def nats (l:aw):aV:=l.map λ (n:Nat)=> .int n
noncomputable def bools (l:cO):aV:=l.map .bool
theorem l0 (h:i<l.length):(nats l)[i]? =some (.int (l.getD i 0)):=by simp [nats,h]
theorem Bz {l:cO} (h:i<l.length):(bools l)[i]? =some (.bool (l.getD i false)):=by simp [bools,h]
theorem lg (l m:aw):nats (l++m)=nats l++nats m:=by simp [nats]
theorem eu (l:aw):(nats l).length=l.length:=by simp [nats]
theorem rL (l:cO):(bools l).length=l.length:=by simp [bools]
theorem aa5 (l:aw) (i v:Nat):(nats l).set i (.int v)=nats (l.set i v):=by simp [nats,wR]
theorem BA (l:cO) (i:Nat) (v:Bool):(bools l).set i (.bool v)=bools (l.set i v):=by simp [bools,wR]
def Ext (H aa:ag):Prop:=∀a o,H a=some o->aa a=some o
theorem Ext.refl (H:ag):Ext H H:=λ _ _ e=>e
theorem Ext.trans {H b:ag} (x:Ext H aa) (y:Ext aa b):Ext H b:=λ a o e=>y a o (x a o e)
theorem Ext.new {a:ak} {o:c5} (h:H a=none):Ext H (H.upd a o):=λ b bw e=>by rw [ag.er];exact e;rintro rfl;rw [h] at e;cases e
theorem Ext.upd {a:ak} {o:c5} (x:Ext B H) (h:B a=none):Ext B (H.upd a o):=λ b bw e=>by rw [ag.er];exact x b bw e;rintro rfl;rw [h] at e;cases e
theorem Ext.none {H:ag} (x:Ext H aa) {a:ak} (h:aa a=sr):H a=sr:=by
 cases e:H a with
 | none=>rfl
 | some o=>rw [x a o e] at h;cases h
noncomputable def firstOf (nul:cO) (aT:aw):aw->Nat->Nat×Bool
 | [],m=>(m,true)
 | x::xs,m=>if nul.getD x false then firstOf nul aT xs (m|||aT.getD x 0) else (m|||aT.getD x 0,false)
theorem NM {xs:aw} {x:Nat}:firstOf nul aT (x::xs) m=if nul.getD x false then firstOf nul aT xs (m|||aT.getD x 0) else (m|||aT.getD x 0,false):=rfl
structure gY where
 W:a0
 r:Nat
 E:ag->Prop
 n:Nat
noncomputable def lk {α:Type} (n:Nat):List (Nat×α)->Option α
 | []=>none
 | (k,v)::r=>if Ja n k then some v else lk n r
theorem FX {α:Type} {k:Nat} {v:α} {r:List (Nat×α)}:lk n ((k,v)::r)=if Ja n k then some v else lk n r:=rfl
abbrev du:=List (Nat×ai)
abbrev Cells:=List (Nat×ak×c5)
noncomputable abbrev gv (n:Nat) (A:du) (l:cq):Prop:=A2 (l.length=n) (∀i v,lk i A=some v->l[i]? =some (some v))
noncomputable abbrev Fr (B:ag) (L:Cells) (H:ag):Prop:=iV (Ext B H) (∀n x o,lk n L=some (x,o)->B x=none) (∀n x o,lk n L=some (x,o)->H x=some o) (∀n m x o bw,lk n L=some (x,o)->lk m L=some (x,bw)->n=m)
def T (C:gY) (B:ag) (L:Cells) (p:aJ×aV×du) (K:dK):Prop:=∀l H,gv C.n p.2.2 l->Fr B L H->runs C.W C.r C.E p.1 p.2.1 l H K
section
variable {C:gY} {B:ag} {L:Cells} {k:aJ} {st:aV} {A:du} {K:dK} {H:ag} {l:cq}
theorem gv.set {v:ai} (a:gv n A l) (h:i<n):gv n ((i,v)::A) (l.set i (some v)):=by
 refine ⟨by rw [je];exact a.1,λ j w e=> ?_⟩
 rw [FX] at e;cases b:Ja j i with
 | true=>
  rw [b] at e;cases e;have:=aif b;subst this;rw [hP (by rw [a.1];exact h)]
 | false=>
  rw [b] at e;rw [iS (by rintro rfl;rw [Ts] at b;cases b)]
  exact a.2 j w e
theorem Fr.nil (H:ag):Fr H [] H:=⟨Ext.refl H,λ _ _ _ e=>(by cases e),λ _ _ _ e=>(by cases e),λ _ _ _ _ _ e=>(by cases e)⟩
theorem gZ {α:Type} {v w:α} {L:List (Nat×α)} (e:lk n ((m,v)::L)=some w):(n=m∧v=w)∨(n≠m∧lk n L=some w):=by
 rw [FX] at e;cases a:Ja n m with
 | true=>rw [a] at e;cases e;exact .inl ⟨aif a,rfl⟩
 | false=>rw [a] at e;exact .inr ⟨(by rintro rfl;rw [Ts] at a;cases a),e⟩
theorem Fr.new (f:Fr B L H) (n:Nat) {a:ak} {o:c5} (h:H a=none):Fr B ((n,a,o)::L) (H.upd a o):=by
 have c:∀m x bw,lk m L=some (x,bw)->x≠a:=λ m x bw e q=>(by have:=f.3 m x bw e;rw [q,h] at this;cases this)
 refine ⟨f.1.trans (.new h),λ m x bw e=> ?_,λ m x bw e=> ?_,λ m g x i j e b=> ?_⟩
 ·rcases gZ e with ⟨_,e⟩ | ⟨_,e⟩
  ·cases e;exact f.1.none h
  ·exact f.2 m x bw e
 ·rcases gZ e with ⟨_,e⟩ | ⟨_,e⟩
  ·cases e;exact ag.fL ..
  ·rw [ag.er _ _ (c _ _ _ e)];exact f.3 m x bw e
 ·rcases gZ e with ⟨q,e⟩ | ⟨_,e⟩<;>rcases gZ b with ⟨d,b⟩ | ⟨_,b⟩
  ·rw [q,d]
  ·cases e;exact absurd rfl (c _ _ _ b)
  ·cases b;exact absurd rfl (c _ _ _ e)
  ·exact f.4 _ _ _ _ _ e b
theorem Fr.set (f:Fr B L H) {a:ak} (h:lk n L=some (a,o)):Fr B ((n,a,bw)::L) (H.upd a bw):=by
 have d:∀m x bw,m≠n->lk m L=some (x,bw)->x≠a:=λ m x bw c e q=>c (f.4 m n a bw o (q▸e) h);refine ⟨f.1.upd (f.2 _ _ _ h),λ m x bw e=> ?_,λ m x bw e=> ?_,λ m j x k l e b=> ?_⟩
 ·rcases gZ e with ⟨_,e⟩ | ⟨_,e⟩
  ·cases e;exact f.2 _ _ _ h
  ·exact f.2 m x bw e
 ·rcases gZ e with ⟨_,e⟩ | ⟨c,e⟩
  ·cases e;exact ag.fL ..
  ·rw [ag.er _ _ (d _ _ _ c e)];exact f.3 m x bw e
 ·rcases gZ e with ⟨q,e⟩ | ⟨c,e⟩<;>rcases gZ b with ⟨g,b⟩ | ⟨i,b⟩
  ·rw [q,g]
  ·cases e;exact absurd rfl (d _ _ _ i b)
  ·cases b;exact absurd rfl (d _ _ _ c e)
  ·exact f.4 _ _ _ _ _ e b
theorem Fr.more (f:Fr B L H) (e:Ext H aa):Fr B L aa:=⟨f.1.trans e,f.2,λ n x o q=>e _ _ (f.3 n x o q),f.4⟩
theorem Fr.put (f:Fr B L H) (e:Ext H aa) (n:Nat) {a:ak} (h:H a=none) (h':aa a=some o):Fr B ((n,a,o)::L) aa:=by
 have c:∀m x bw,lk m L=some (x,bw)->x≠a:=λ m x bw e q=>(by have:=f.3 m x bw e;rw [q,h] at this;cases this)
 refine ⟨f.1.trans e,λ m x bw q=> ?_,λ m x bw q=> ?_,λ m g x i j q b=> ?_⟩
 ·rcases gZ q with ⟨_,q⟩ | ⟨_,q⟩
  ·cases q;exact f.1.none h
  ·exact f.2 m x bw q
 ·rcases gZ q with ⟨_,q⟩ | ⟨_,q⟩
  ·cases q;exact h'
  ·exact e _ _ (f.3 m x bw q)
 ·rcases gZ q with ⟨z,q⟩ | ⟨_,q⟩<;>rcases gZ b with ⟨d,b⟩ | ⟨_,b⟩
  ·rw [z,d]
  ·cases q;exact absurd rfl (c _ _ _ b)
  ·cases b;exact absurd rfl (c _ _ _ q)
  ·exact f.4 _ _ _ _ _ q b
theorem Fr.base (f:Fr B L H) {a:ak} (h:B a=some o):Fr (B.upd a bw) L (H.upd a bw):=by
 have d:∀m x bw,lk m L=some (x,bw)->x≠a:=λ m x bw e q=>(by have:=f.2 m x bw e;rw [q,h] at this;cases this)
 refine ⟨λ b bT e=> ?_,λ m x c e=>(ag.er _ _ (d _ _ _ e)).trans (f.2 m x c e),λ m x c e=>(ag.er _ _ (d _ _ _ e)).trans (f.3 m x c e),f.4⟩
 by_cases g:b=a
 ·subst g;rw [ag.fL] at e ⊢;exact e
 ·rw [ag.er _ _ g] at e ⊢;exact f.1 _ _ e
noncomputable def pick (B aa:ag) (as:gb):ag:=λ a=>if a∈as then aa a else B a
theorem p8 {a:ak} (h:a∈as):pick B aa as a=aa a:=if_pos h
theorem BB {a:ak} (h:B a=some o) (h':aa a=some o):pick B aa as a=some o:=by
 unfold pick;split
 ·exact h'
 ·exact h
theorem Fr.pick (f:Fr B L H) (as:gb) (k:∀a o,a∉as->H a=some o->aa a=some o) (aI:∀a,a∈as->B a≠none∨H a=none):Fr (pick B aa as) L aa:=by
 have b:∀n x o,lk n L=some (x,o)->x∉as:=λ n x o e h=>(aI x h).elim (λ h=>h (f.2 _ _ _ e)) λ h=>by rw [f.3 _ _ _ e] at h;cases h
 refine ⟨λ a o e=> ?_,λ n x o e=>(if_neg (b _ _ _ e)).trans (f.2 _ _ _ e),λ n x o e=>k _ _ (b _ _ _ e) (f.3 _ _ _ e),f.4⟩
 by_cases h:a∈as
 ·rw [p8 h] at e;exact e
 ·exact k _ _ h (f.1 _ _ ((if_neg h).symm.trans e))
theorem Fr.yf (f:Fr B L H) (e:Ext H aa) {c:ak} (h:H c=none) (h':aa c=some o):Fr (B.upd c o) L aa:=by
 refine ⟨λ b bT q=> ?_,λ m y a q=>(ag.er _ _ ((λ m y bw q r=>(by have:=f.3 m y bw q;rw [r,h] at this;cases this):∀m y bw,lk m L=some (y,bw)->y≠c) _ _ _ q)).trans (f.2 m y a q),λ m y a q=>e _ _ (f.3 m y a q),f.4⟩
 by_cases d:b=c
 ·subst d;rw [ag.fL] at q;cases q;exact h'
 ·rw [ag.er _ _ d] at q;exact e _ _ (f.1 _ _ q)
noncomputable def sel {α:Type} (ns:aw) (L:List (Nat×α)):List (Nat×α):=ns.filterMap λ n=>(lk n L).map (n,·)
theorem oR {α:Type} {L:List (Nat×α)} {v:α}:lk n (sel ns L)=some v->lk n L=some v:=by
 induction ns with
 | nil=>exact λ e=>no e
 | cons m ns ih=>
  intro e;unfold sel at e;rw [aih] at e;cases h:lk m L with
  | none=>rw [h] at e;exact ih e
  | some w=>
   rw [h] at e;rcases gZ e with ⟨q,e⟩ | ⟨_,e⟩
   ·rw [q,h,e]
   ·exact ih e
theorem gv.sel (a:gv n A l) (ns:aw):gv n (sel ns A) l:=⟨a.1,λ i v e=>a.2 i v (oR e)⟩
theorem Fr.sel (f:Fr B L H) (ns:aw):Fr B (sel ns L) H:=⟨f.1,λ n x o e=>f.2 n x o (oR e),λ n x o e=>f.3 n x o (oR e),λ n m x o bw e a=>f.4 n m x o bw (oR e) (oR a)⟩
def dD (B:ag) (L:Cells) (x:ak) (o:c5):Prop:=∀H,Fr B L H->H x=some o
theorem aL (h:B x=some o):dD B L x o:=λ _ f=>f.1 _ _ h
theorem rc (n:Nat) (h:lk n L=some (x,o)):dD B L x o:=λ _ f=>f.3 n _ _ h
noncomputable def rM:Nat->aV->aV->Option (aV×aV)
 | 0,a,st=>some (a,st)
 | n+1,a,st=>match st with | x::st=>rM n (x::a) st | []=>none
theorem vD:∀{n:Nat} {a st xs st':aV},rM n a st=some (xs,st')->(st.take n).reverse++a=xs∧st.drop n=st':=by
 intro n
 induction n with
 | zero=>exact λ e=>⟨congrArg (·.1) (dA e),congrArg (·.2) (dA e)⟩
 | succ n ih=>
  intro a st;cases st with
  | nil=>exact λ e=>no e
  | cons x st=>
   intro _ _ e;have b:=ih (st:=st) e;exact ⟨by rw [<- b.1,List.take_succ_cons,zp,jy];rfl,b.2⟩
noncomputable def yg (n:Nat):aw->aV->du->Option du
 | [],vs,A=>match vs with | []=>some A | _::_=>none
 | i::is,vs,A=>match vs with | v::vs=>if zV i n then yg n is vs ((i,v)::A) else none | []=>none
noncomputable def tz (n:Nat):gJ->ai->du->Option du
 | .one i,v,A=>if zV i n then some ((i,v)::A) else none
 | .tup is,v,A=>match v with | .tup vs=>yg n is vs A | _=>none
theorem aa6:∀(is:aw) (vs:aV) {A gg:du} {l:cq},yg n is vs A=some gg->gv n A l->is.length=vs.length∧gv n gg ((is.zip vs).foldl (λ l p=>l.set p.1 (some p.2)) l):=by
 intro is
 induction is with
 | nil=>intro vs;cases vs with
  | nil=>exact λ e a=>⟨rfl,dA e▸a⟩
  | cons=>exact λ e=>no e
 | cons i is ih=>intro vs;cases vs with
  | nil=>exact λ e=>no e
  | cons v vs=>
   intro A gg l e a;dsimp only [yg] at e
   by_cases h:zV i n=true
   ·rw [if_pos h] at e;have b:=ih vs e (a.set (Nat.blt_eq.mp h));exact ⟨congrArg (· +1) b.1,b.2⟩
   ·rw [if_neg h] at e;exact no e
theorem yh {t:gJ} {v:ai} (h:tz n t v A=some gg) (a:gv n A l):∃a7,lM t v l=some a7∧gv n gg a7:=by
 cases t with
 | one i=>
  dsimp only [tz] at h
  by_cases b:zV i n=true
  ·rw [if_pos b] at h;cases h;exact ⟨_,rfl,a.set (Nat.blt_eq.mp b)⟩
  ·rw [if_neg b] at h;cases h
 | tup is=>
  cases v<;>first | (cases h;done) | skip
  have aD:=aa6 is _ h a;exact ⟨_,if_pos aD.1,aD.2⟩
noncomputable def vE:ai->Option Int
 | .int i=>some i
 | _=>none
theorem yi {v:ai} {i:Int} (h:vE v=some i):v= .int i:=by cases v<;>first | exact no h | exact congrArg ai.int (dA h)
noncomputable def NN:ai->Option Bool
 | .bool i=>some i
 | _=>none
theorem aa7 {v:ai} {i:Bool} (h:NN v=some i):v= .bool i:=by cases v<;>first | exact no h | exact congrArg ai.bool (dA h)
noncomputable def NO (x y:Int):uh->Option ai
 | .Add=>some (.int (x+y))
 | .Sub=>some (.int (x - y))
 | _=>none
theorem aa8 {Q:KE} {x y:Int} {a:uh} {v:ai} (h:NO x y a=some v) (q:Q v H):gK H Q a (.int x) (.int y):=by
 cases a<;>first | exact no h | exact .D9 (dA h▸q) | exact .sub (dA h▸q)
noncomputable def NP (x y:Int):pn->Option Bool
 | .Eq=>some (decide (x=y))
 | .NotEq=>some (!decide (x=y))
 | .Lt=>some (decide (x<y))
 | .Gt=>some (decide (x>y))
 | .GtE=>some (decide (x≥y))
 | _=>none
theorem aa9 {x y:Int} {a:pn} {v:Bool} (h:NP x y a=some v) (q:Q (.bool v) H):gm H Q a (.int x) (.int y):=by
 cases a<;>first | exact no h | (have h:=dA h;subst h;first | exact .eq (.int q) | exact .ne (.int q) | exact .lt q | exact .gt q | exact .ge q)
noncomputable def NQ (x y:ai) (a:pn):Option Bool:=match y with
 | .int j=>(vE x).bind λ i=>NP i j a
 | .str t=>(match x,a with | .str s,.Eq=>some (decide (s=t)) | _,_=>none)
 | _=>none
theorem aba {Q:KE} {x y:ai} {a:pn} {v:Bool} (h:NQ x y a=some v) (q:Q (.bool v) H):gm H Q a x y:=by
 cases y<;>try exact no h
 ·obtain ⟨i,e,h⟩:=SY.mp h;exact yi e▸aa9 h q
 ·cases x<;>try exact no h
  cases a<;>try exact no h
  exact .eq (.str (dA h▸q))
def abb (n:Nat) (o:Op) (st:aV) (A:du) (p:aV×du):Prop:=∀{W:a0} {r:Nat} {E:ag->Prop} {l:cq} {H:ag} {K:dK},gv n A l->∃a7,gv n p.2 a7∧(K .next p.1 a7 H->Av W r E o st l H K)
abbrev abc (n:Nat) (o:Op) (st:aV) (A:du):=Option {p:aV×du//abb n o st A p}
noncomputable def oS {β α:Type}:(a:Option β)->(∀b,a=some b->Option α)->Option α
 | some b,f=>f b rfl
 | none,_=>none
noncomputable def FY (n:Nat):∀(o:Op) (st:aV) (A:du),abc n o st A
 | .aN v,st,A=>some ⟨(v::st,A),λ a=>⟨_,a,id⟩⟩
 | .ae i,st,A=>oS (lk i A) λ v e=>some ⟨(v::st,A),λ a=>⟨_,a,λ q=>by show xb i _ _;unfold xb;rw [a.2 _ _ e];exact q⟩⟩
 | .tup n,st,A=>oS (rM n [] st) λ p e=>some ⟨(.tup p.1::p.2,A),λ a=>⟨_,a,λ q=>by
   have z:=vD (xs:=p.1) (st':=p.2) e;rw [h9] at z;rw [<- z.1,<- z.2] at q;exact q⟩⟩
 | .pop,v::st,A=>some ⟨(st,A),λ a=>⟨_,a,id⟩⟩
 | .st t,v::st,A=>oS (tz n t v A) λ B e=>some ⟨(st,B),λ a=>(yh e a).elim λ a7 z=>⟨a7,z.2,λ q=> .inl ⟨a7,z.1,q⟩⟩⟩
 | .ints,v::st,A=>oS (vE v) λ i e=>some ⟨(v::st,A),λ a=>⟨_,a,λ q=>⟨⟨i,yi e⟩,q⟩⟩⟩
 | .neg,v::st,A=>oS (vE v) λ i e=>some ⟨(.int (-i)::st,A),λ a=>⟨_,a,λ q=>⟨i,yi e,q⟩⟩⟩
 | .not,v::st,A=>oS (NN v) λ i e=>some ⟨(.bool (!i)::st,A),λ a=>⟨_,a,λ q=>aa7 e▸iX.bool (b:=i) q⟩⟩
 | .bin c,v::w::st,A=>oS (vE w) λ x f=>oS (vE v) λ y g=>oS (NO x y c) λ r d=>some ⟨(r::st,A),λ {W h E l H K} a=>⟨_,a,λ q=>by rw [yi f,yi g];exact aa8 (Q:=λ v H=>K .next (v::st) l H) d q⟩⟩
 | .cmp c,v::w::st,A=>oS (NQ w v c) λ r d=>some ⟨(.bool r::st,A),λ {W h E l H K} a=>⟨_,a,λ q=>aba (Q:=λ v H=>K .next (v::st) l H) d q⟩⟩
 | _,_,_=>none
noncomputable def bb (n:Nat):aJ->aV->du->aJ×aV×du
 | [],st,A=>([],st,A)
 | o::k,st,A=>match FY n o st A with
  | some ⟨(st,A),_⟩=>bb n k st A
  | none=>(o::k,st,A)
theorem abd {o:Op} {q:aJ} {s:aV} {D:du}:bb m (o::q) s D=match FY m o s D with
  | some ⟨(st,A),_⟩=>bb m q st A
  | none=>(o::q,s,D):=rfl
theorem abe:∀(k:aJ) (st:aV) (A:du) (l:cq),gv C.n A l->(∀l,gv C.n (bb C.n k st A).2.2 l->runs C.W C.r C.E (bb C.n k st A).1 (bb C.n k st A).2.1 l H K)->runs C.W C.r C.E k st l H K:=by
 intro k
 induction k with
 | nil=>exact λ _ _ _ a h=>h _ a
 | cons o k ih=>
  intro st A l a h;rw [abd] at h;revert h;cases FY C.n o st A with
  | none=>exact λ h=>h _ a
  | some p=>exact λ h=>(p.2 (W:=C.W) (r:=C.r) (E:=C.E) (H:=H) (K:=gn (λ st l H=>runs C.W C.r C.E k st l H K) K) a).elim λ a7 z=>z.2 (ih _ _ a7 z.1 h)
theorem T.go (q:T C B L (bb C.n k st A) K) (a:gv C.n A l) (f:Fr B L H):runs C.W C.r C.E k st l H K:=abe k st A l a λ a7 b=>q a7 H b f
end
end
section
section
variable {C:gY} {B:ag} {L:Cells} {k:aJ} {st:aV} {A:du} {K:dK} {H:ag} {l:cq} {x y a:ak} {v w d:ai} {xs ys zs:aV} {sh:Shape} {es fs:List (ai×ai)} {c:aP} {g:bp->Option ai} {f:bp} {n:Nat}
theorem BC:∀(a:aJ) (st:aV) (l:cq) (H:ag),runs W r E (a++k) st l H K=runs W r E a st l H (gn (λ st l H=>runs W r E k st l H K) K):=by
 intro a
 induction a with
 | nil=>exact λ _ _ _=>rfl
 | cons o a ih=>
  intro st l H;show Av W r E o st l H _=Av W r E o st l H _
  congr 1
  funext cy st l H
  cases cy<;>first | rfl | exact ih st l H
theorem FZ {a:aJ} (J:p=true->T C B L (bb C.n (a++k) st A) K) (c:p=false->T C B L (bb C.n (b++k) st A) K) (x:gv C.n A l) (f:Fr B L H):if p then runs C.W C.r C.E a st l H (gn (λ st l H=>runs C.W C.r C.E k st l H K) K) else runs C.W C.r C.E b st l H (gn (λ st l H=>runs C.W C.r C.E k st l H K) K):=by
 cases p with
 | true=>exact BC a st l H▸(J rfl).go x f
 | false=>exact BC b st l H▸(c rfl).go x f
theorem nP {a:aJ} (J:p=true->T C B L (bb C.n (a++k) st A) K) (c:p=false->T C B L (bb C.n (b++k) st A) K):T C B L (.cf a b::k,.bool p::st,A) K:=λ l H x f=>iX.bool (FZ J c x f)
theorem fv {a:aJ} {p:Prop} {i:Decidable p} (J:p->T C B L (bb C.n (a++k) st A) K) (c:¬p->T C B L (bb C.n (b++k) st A) K):T C B L (.cf a b::k,.bool (@decide p i)::st,A) K:=nP (λ h=>J (of_decide_eq_true h)) λ h=>c (of_decide_eq_false h)
theorem iM {a:aJ} {p:Prop} {i:Decidable p} (J:p->T C B L (bb C.n (b++k) st A) K) (c:¬p->T C B L (bb C.n (a++k) st A) K):T C B L (.cf a b::k,.bool (!@decide p i)::st,A) K:=nP (λ h=>c (of_decide_eq_false (by rw [zL] at h;exact h))) λ h=>J (of_decide_eq_true (by rw [Bool.not_eq_false'] at h;exact h))
theorem tA {a:aJ} (h:p=true) (q:T C B L (bb C.n (a++k) st A) K):T C B L (.cf a b::k,.bool p::st,A) K:=nP (λ _=>q) λ e=>by rw [h] at e;cases e
theorem nQ {a:aJ} (h:p=false) (q:T C B L (bb C.n (b++k) st A) K):T C B L (.cf a b::k,.bool p::st,A) K:=nP (λ e=>by rw [h] at e;cases e) λ _=>q
theorem abf {a:aJ} (h:dD B L x (.list xs)) (c:xs.length<=lim) (J:xs≠[]->T C B L (bb C.n (a++k) st A) K) (d:xs=[]->T C B L (bb C.n (b++k) st A) K):T C B L (.cf a b::k,.ref x::st,A) K:=λ l H z f=>iX.list (h H f) c (FZ (λ e=>J (of_decide_eq_true e)) (λ e=>d (Tj.mp (of_decide_eq_false e))) z f)
theorem NR {a:aJ} (J:i≠0->T C B L (bb C.n (a++k) st A) K) (c:i=0->T C B L (bb C.n (b++k) st A) K):T C B L (.cf a b::k,.int (i:Nat)::st,A) K:=λ l H z f=>iX.int (FZ (λ e=>J λ q=>of_decide_eq_true e (congrArg ml q)) (λ e=>c (fU (Tj.mp (of_decide_eq_false e)))) z f)
theorem bO (h:dD B L x (.inst c g)) (a:pu c f=true) (b:g f=some v) (q:T C B L (bb C.n k (v::st) A) K):T C B L (.bi f::k,.ref x::st,A) K:=λ l H z e=>Ar.mk (h H e) a b (q.go z e)
theorem d4 {i:Nat} (h:dD B L x (.list xs)) (J:i<2^60) (a:xs[i]? =some v) (q:T C B L (bb C.n k (v::st) A) K):T C B L (.sub::k,.int (i:Nat):: .ref x::st,A) K:=λ l H z e=>qZ.list (h H e) J a (q.go z e)
theorem rN {i:Nat} (J:i<2^60) (a:xs[i]? =some v) (q:T C B L (bb C.n k (v::st) A) K):T C B L (.sub::k,.int (i:Nat):: .tup xs::st,A) K:=λ l H z e=>qZ.tup J a (q.go z e)
theorem hZ (h:dD B L x (.dict sh es)) (ao:sh.has w) (a:cU es w=some v) (q:T C B L (bb C.n k (v::st) A) K):T C B L (.sub::k,w:: .ref x::st,A) K:=λ l H z e=>qZ.dict (h H e) ao a (q.go z e)
theorem oT {i:Nat} (q:T C B L (bb C.n k (.int (i|||j:Nat)::st) A) K):T C B L (.bin .BitOr::k,.int (j:Nat):: .int (i:Nat)::st,A) K:=λ l H z e=>gK.or (q.go z e)
theorem rO {j:Nat} (q:T C B L (bb C.n k (.int (i&&&j:Nat)::st) A) K):T C B L (.bin .BitAnd::k,.int (j:Nat):: .int (i:Nat)::st,A) K:=λ l H z e=>gK.and (q.go z e)
theorem abg (h:j<64) (q:T C B L (bb C.n k (.int (2^j:Nat)::st) A) K):T C B L (.bin .LShift::k,.int (j:Nat):: .int 1::st,A) K:=λ l H z e=>gK.shl h (q.go z e)
theorem abh (q:T C B L (bb C.n k (.int (i&&&1:Nat)::st) A) K):T C B L (.bin .BitAnd::k,.int 1:: .int (i:Nat)::st,A) K:=rO (j:=1) q
theorem NS (q:T C B L (bb C.n k (.int (i/2:Nat)::st) A) K):T C B L (.bin .RShift::k,.int 1:: .int (i:Nat)::st,A) K:=λ l H z e=>gK.shr (q.go z e)
theorem F0 {m:kl} (h:H x=some o) (a:o.j0=some m.j0):As H (.ref x)=some m.j0:=(congrArg (·.bind c5.j0) h).trans a
theorem fl {m:k4} (h:dD B L x (.list xs)) (a:m.j0= .list) (q:T C B L (bb C.n k (.ref x::st) A) K):T C B L (.cG (.b m)::k,.ref x::st,A) K:=λ l H z e=>⟨F0 (h H e) (congrArg some a.symm),q.go z e⟩
theorem rP {m:k4} (h:dD B L x (.dict sh es)) (a:m.j0= .dict) (q:T C B L (bb C.n k (.ref x::st) A) K):T C B L (.cG (.b m)::k,.ref x::st,A) K:=λ l H z e=>⟨F0 (h H e) (congrArg some a.symm),q.go z e⟩
theorem p9 {G:aP} (h:dD B L x (.inst c g)) (q:T C B L (bb C.n k (.ref x::st) A) K):T C B L (.cG (.o c G)::k,.ref x::st,A) K:=λ l H z e=>⟨F0 (h H e) rfl,q.go z e⟩
theorem abi (h:dD B L y (.dict sh es)) (ao:sh.has w) (a:(cU es w).isSome=p) (q:T C B L (bb C.n k (.bool p::st) A) K):T C B L (.cmp .In::k,.ref y::w::st,A) K:=λ l H z f=>gm.Ea (.dict (h H f) ao (a▸q.go z f))
theorem NT (h:dD B L y (.dict sh es)) (ao:sh.has w) (a:(cU es w).isSome=p) (q:T C B L (bb C.n k (.bool (!p)::st) A) K):T C B L (.cmp .NotIn::k,.ref y::w::st,A) K:=λ l H z f=>gm.Eb (.dict (h H f) ao (a▸q.go z f))
theorem fw (m:Nat) (h:rM n [] st=some (xs,st')) (q:∀a,T C B ((m,a,.list xs)::L) (bb C.n k (.ref a::st') A) K):T C B L (.list n::k,st,A) K:=λ l H z e c aI=>by
 have b:=vD h;have d:=b.1;have f:=b.2;rw [h9] at d;subst d f;exact (q c).go z (e.new m aI)
theorem lh (m:Nat) (sh:Shape) (q:∀a,T C B ((m,a,.dict sh [])::L) (bb C.n k (.ref a::st) A) K):T C B L (.iE::k,st,A) K:=λ l _ z e=>⟨sh,λ a aI=>(q a).go z (e.new m aI)⟩
theorem F1 (m:Nat) (h:lk m L=some (a,.dict sh [])) (ao:sh.has w) (q:T C B ((m,a,.dict sh [(w,v)])::L) (bb C.n k (.ref a::st) A) K):T C B L (.sU::k,v::w:: .ref a::st,A) K:=λ l _ z e=>⟨a,sh,rfl,e.3 _ _ _ h,ao,q.go z (e.set h)⟩
theorem jl {g:aP} {as:aV} (h:rM n [] st=some (as,st')) (b:g.builtin=true) (q:∀l H,gv C.n A l->Fr B L H->ie H (λ v H=>runs C.W C.r C.E k (v::st') l H K) g as):T C B L (.call e g n::k,st,A) K:=λ l H z f=>by
 have aD:=vD h;have a:=aD.1;have c:=aD.2;rw [h9] at a;subst a c;show pG _ _ _ _ _ _ _;unfold pG;rw [b];exact q l H z f
theorem F2 (m:Nat) (h:dD B L x (.list xs)) (a:xs.length<=lim) (q:∀c,T C B ((m,c,.list xs)::L) (bb C.n k (.ref c::st) A) K):T C B L (.call et .qQ 1::k,.ref x::st,A) K:=jl rfl rfl λ l H z e=> .JZ (h H e) a λ c aI=>(q c).go z (e.new m aI)
theorem F3 (m:Nat) (h:dD B L x (.dict .int es)) (a:es.length<=lim) (b:es.map (·.1)=xs) (q:∀c,T C B ((m,c,.list xs)::L) (bb C.n k (.ref c::st) A) K):T C B L (.call et .qQ 1::k,.ref x::st,A) K:=jl rfl rfl λ l H z e=> .J0 (h H e) a λ c aI=>(b▸q c).go z (e.new m aI)
theorem qa (h:dD B L x (.list xs)) (a:xs.length<=lim) (q:T C B L (bb C.n k (.tup xs::st) A) K):T C B L (.call et .Aj 1::k,.ref x::st,A) K:=jl rfl rfl λ l H z e=> .tup (h H e) a (q.go z e)
theorem iN {i:Nat} (h:dD B L x (.list xs)) (a:xs.length=i) (b:i<=lim) (q:T C B L (bb C.n k (.int (i:Nat)::st) A) K):T C B L (.call et .sJ 1::k,.ref x::st,A) K:=jl rfl rfl λ l H z e=> .JV (h H e) (a▸b) (a▸q.go z e)
theorem yj {i:Nat} (a:xs.length=i) (b:i<=lim) (q:T C B L (bb C.n k (.int (i:Nat)::st) A) K):T C B L (.call et .sJ 1::k,.tup xs::st,A) K:=jl rfl rfl λ l H z e=> .JU (a▸b) (a▸q.go z e)
theorem l1 {i:Nat} (h:i<2^60) (q:T C B L (bb C.n k (.ic 0 (i:Nat)::st) A) K):T C B L (.call et .Ai 1::k,.int (i:Nat)::st,A) K:=jl rfl rfl λ l H z e=> .JX h (q.go z e)
theorem abj {i:Nat} (h:i<2^60) (a:j<2^60) (q:T C B L (bb C.n k (.ic (i:Nat) (j:Nat)::st) A) K):T C B L (.call et .Ai 2::k,.int (j:Nat):: .int (i:Nat)::st,A) K:=jl rfl rfl λ l H z e=> .JY h a (q.go z e)
theorem abk (m:Nat) (a:xs.length<=lim) (e:xs=es.map λ p=> .tup [p.1,p.2]) (ao:∀p∈es,Shape.int.has p.1) (b:(es.map (·.1)).Nodup) (q:∀c,T C B ((m,c,.dict .int es)::L) (bb C.n k (.ref c::st) A) K):T C B L (.call et .Jv 1::k,.tup xs::st,A) K:=jl rfl rfl λ l H z f=>e▸.dict (by rw [e,cz] at a;exact a) ao b λ c aI=>(q c).go z (f.new m aI)
theorem abl {i:Nat} {j:Int} (a:j=(i:Nat)) (J:1<=i) (b:i<=xs.length) (c:xs.length<=lim) (e:xs.drop i=ys) (q:T C B L (bb C.n k (.tup ys::st) A) K):T C B L (.slice::k,.none:: .int j:: .tup xs::st,A) K:=λ l H z f=>by subst e;subst a;exact q0.tup J b c (q.go z f)
theorem aju (h:tz C.n t v A=some gg) (q:T C B L (bb C.n k st gg) K):T C B L (.st t::k,v::st,A) K:=λ l H a f=>(yh h a).elim λ a7 z=> .inl ⟨a7,z.1,q.go z.2 f⟩
theorem j4 (ms ns:aw) (b:sel ms L=iK) (c:sel ns A=gg) (q:T C B iK (k,st,gg) K):T C B L (k,st,A) K:=λ l H a f=>q l H (c▸a.sel ns) (b▸f.sel ms)
theorem NU {i:Nat} (m:Nat) (h:dD B L x (.list [v])) (a:i<=1000) (q:∀c,T C B ((m,c,.list (eQ i v))::L) (bb C.n k (.ref c::st) A) K):T C B L (.bin .Mult::k,.int (i:Nat):: .ref x::st,A) K:=λ l H z f=>gK.mulL (h H f) (m6 i) (mf.mpr a) λ c aI=>(q c).go z (f.new m aI)
theorem abm (m:Nat) (h:dD B L x (.list xs)) (a:xs.length<=60) (b:qY xs) (e:xs.mergeSort gB=ys) (q:∀c,T C B ((m,c,.list ys)::L) (bb C.n k (.ref c::st) A) K):T C B L (.call et .sL 1::k,.ref x::st,A) K:=jl rfl rfl λ l H z f=> .J2 (h H f) a b λ c aI=>(e▸q c).go z (f.new m aI)
theorem qb (m:Nat) (h:dD B L x (.dict .int es)) (a:es.length<=60) (e:(es.map (·.1)).mergeSort gB=ys) (q:∀c,T C B ((m,c,.list ys)::L) (bb C.n k (.ref c::st) A) K):T C B L (.call et .sL 1::k,.ref x::st,A) K:=jl rfl rfl λ l H z f=> .J3 (h H f) a λ c aI=>(e▸q c).go z (f.new m aI)
theorem g0 (m:Nat) (h:lk m L=some (x,.list xs)) (b:xs.length<lim) (a:xs++[v]=ys) (q:T C B ((m,x,.list ys)::L) (bb C.n k (.none::st) A) K):T C B L (.cj e (.b .append) 1::k,v:: .ref x::st,A) K:=λ l H z f=>⟨_,rfl,.append (f.3 _ _ _ h) b (a▸q.go z (a▸f.set h))⟩
theorem abn (m:Nat) (h:lk m L=some (x,.list xs)) (a:xs=ys++[v]) (b:xs.length<=lim) (q:T C B ((m,x,.list ys)::L) (bb C.n k (v::st) A) K):T C B L (.cj e (.b .pop) 0::k,.ref x::st,A) K:=λ l H z f=>⟨_,rfl,.pop (a▸f.3 _ _ _ h) (by rw [a,cI] at b;exact b) (q.go z (f.set h))⟩
theorem tB (h:dD B L x (.dict sh es)) (ao:sh.has w) (a:(cU es w).getD d=v) (q:T C B L (bb C.n k (v::st) A) K):T C B L (.cj e (.b .get) 2::k,d::w:: .ref x::st,A) K:=λ l H z f=>⟨_,rfl,.get (h H f) ao (a▸q.go z f)⟩
theorem vF (m:Nat) (h:lk m L=some (x,.list xs)) (b:i<xs.length) (c:xs.length<=lim) (a:xs.set i v=ys) (q:T C B ((m,x,.list ys)::L) (bb C.n k st A) K):T C B L (.hl::k,.int (i:Nat):: .ref x::v::st,A) K:=λ l H z f=>sR.list (f.3 _ _ _ h) (m6 i) b c (a▸q.go z (a▸f.set h))
theorem oU (m:Nat) (h:lk m L=some (x,.dict sh es)) (ao:sh.has w) (b:es.length<lim) (a:hk es w v=fs) (q:T C B ((m,x,.dict sh fs)::L) (bb C.n k st A) K):T C B L (.hl::k,w:: .ref x::v::st,A) K:=λ l H z f=>sR.dict (f.3 _ _ _ h) ao b (a▸q.go z (a▸f.set h))
theorem BD (m:Nat) (h:lk m L=some (x,.inst c g)) (a:pu c f=true) (q:T C B ((m,x,.inst c λ z=>if z=f then some v else g z)::L) (bb C.n k st A) K):T C B L (.eh f::k,.ref x::v::st,A) K:=λ l H z e=>xa.mk (e.3 _ _ _ h) a (q.go z (e.set h))
theorem fm {g:aP} {as:aV} (h:rM n [] st=some (as,st')) (c:g.builtin=false) (q:∀l H,gv C.n A l->Fr B L H->dw C.W C.r g as H (λ v H=>runs C.W C.r C.E k (v::st') l H K) (if e then C.E else mu)):T C B L (.call e g n::k,st,A) K:=λ l H z f=>by
 have a:=vD h;have b:=a.1;have d:=a.2;rw [h9] at b;subst b d;show pG _ _ _ _ _ _ _;unfold pG;rw [c];exact q l H z f
theorem mN {G:aP} {as:aV} (h:rM n [] st=some (as,.ref x::st')) (q:∀l H,gv C.n A l->Fr B L H->dw C.W C.r G (.ref x::as) H (λ v H=>runs C.W C.r C.E k (v::st') l H K) (if e then C.E else mu)):T C B L (.cj e (.o c G) n::k,st,A) K:=λ l H z f=>by
 have a:=vD h;have b:=a.1;rw [h9] at b;show dp (st.drop n) _;rw [a.2,b];exact q l H z f
noncomputable abbrev rQ:=jH
theorem e9 (q:∀H,Fr B L H->Q v H):T C B L (.ret::k,v::st,A) (rQ Q):=λ _ H _ f=>q H f
theorem vG (q:∀H,Fr B L H->Q .none H):T C B L ([],st,A) (rQ Q):=λ _ H _ f=>q H f
noncomputable def qc:Nat->cq->du
 | _,[]=>[]
 | i,v::l=>match v with | some v=>(i,v)::qc (i+1) l | none=>qc (i+1) l
theorem BE:∀{l:cq} {i j:Nat},lk j (qc i l)=some v->i<=j∧l[j - i]? =some (some v):=by
 intro l
 induction l with
 | nil=>exact λ e=>no e
 | cons w l ih=>
  intro i j e;have go:lk j (qc (i+1) l)=some v->i<=j∧(w::l)[j - i]? =some (some v):=λ e=>by
   have z:=ih e;have q:j - i=(j - (i+1))+1:=(Nat.sub_eq_of_eq_add (by rw [zq,Ie 1 i,ef z.1]))
   exact ⟨Sv z.1,q▸z.2⟩
  cases w with
  | none=>exact go e
  | some w=>
   rcases gZ (L:=qc (i+1) l) e with ⟨q,a⟩ | ⟨q,e⟩
   ·rw [q,a,qM];exact ⟨dn _,rfl⟩
   ·exact go e
theorem fN (n:Nat) (a:l.length=n) (q:T ⟨W,r,E,n⟩ H [] (bb n nR [] (qc 0 l)) (rQ Q)):runs W r E nR [] l H (jH Q):=q.go ⟨a,λ i v e=>(BE e).2⟩ (.nil H)
theorem hr {y:Nat} {d e:aw} (h:cg n=d++y::e):d=cg y∧y<n∧d.length=y:=by
 have J:(cg n)[d.length]? =some y:=by rw [h,jA (dn _),qM];rfl
 have c:=(cF.mp J);have b:=c.1;rw [gy] at b;have a:=c.2;rw [De] at a;refine ⟨?_,a▸b,a⟩;have:=congrArg (List.take d.length) h;rw [Sq,List.take_range,aii (bF b),a] at this;exact this.symm
theorem F4 {t:Nat} (h:v= .ref a) (b8:zV t n=true:=by rfl):tz n (.one t) v A=some ((t,.ref a)::A):=by rw [h];exact if_pos b8
noncomputable def ag.del (H:ag) (x:ak):ag:=λ a=>if a=x then none else H a
theorem ag.yk (H:ag) (h:a≠x):H.del x a=H a:=if_neg h
theorem ag.abo (e:Ext B H) (h:B x=none):Ext B (H.del x):=λ a o q=>by
 rw [ag.yk _ (by rintro rfl;rw [h] at q;cases q)];exact e a o q
theorem Fr.del (m:Nat) (h:H x=some o):Fr (H.del x) [(m,x,o)] H:=by
 refine ⟨λ a bT e=> ?_,λ n y bw e=> ?_,λ n y bw e=> ?_,λ n f y g i e b=> ?_⟩
 ·by_cases c:a=x
  ·subst c;rw [show H.del a a=none from if_pos rfl] at e;cases e
  ·rw [ag.yk _ c] at e;exact e
 ·rcases gZ e with ⟨_,e⟩ | ⟨_,e⟩<;>cases e;exact if_pos rfl
 ·rcases gZ e with ⟨_,e⟩ | ⟨_,e⟩<;>cases e;exact h
 ·rcases gZ e with ⟨q,_⟩ | ⟨_,e⟩
  ·rcases gZ b with ⟨d,_⟩ | ⟨_,b⟩
   ·rw [q,d]
   ·cases b
  ·cases e
theorem Fr.BF (f:Fr B L H) {n m:Nat} (J:lk n L=some (x,o)) (a:lk m L=some (y,bw)) (h:n≠m):x≠y:=λ e=>h (f.4 _ _ _ _ _ J (e▸a))
theorem abp (n:Nat) (a:H x=some o) (b:l.length=n) (q:T ⟨W,r,E,n⟩ (H.del x) [(0,x,o)] (bb n nR [] (qc 0 l)) (rQ Q)):runs W r E nR [] l H (jH Q):=q.go ⟨b,λ i v e=>(BE e).2⟩ (.del 0 a)
theorem F5 (n:Nat) (f:Fr B L H) (a:l.length=n) (q:T ⟨W,r,E,n⟩ B L (bb n nR [] (qc 0 l)) (rQ Q)):runs W r E nR [] l H (jH Q):=q.go ⟨a,λ i v e=>(BE e).2⟩ f
theorem abq {s:aW} (h:2<=C.r) (q:∀H,Fr B L H->C.E H):T C B L (.raise::k,.str s::st,A) K:=λ _ H _ f=>⟨⟨⟨_,rfl⟩,h⟩,q H f⟩
theorem NV {s s':aW} (h:s.length+s'.length<=1000) (q:T C B L (bb C.n k (.str (s++s')::st) A) K):T C B L (.bin .Add::k,.str s':: .str s::st,A) K:=λ l H z f=>gK.JQ h (q.go z f)
theorem abr (h:i<1000000000) (q:T C B L (bb C.n k (.str (bj (CX (i:Int)))::st) A) K):T C B L (.call et .Jx 1::k,.int (i:Nat)::st,A) K:=jl rfl rfl λ l H z f=> .str h (q.go z f)
theorem BG (m:Nat) (h:dD B L x (.list xs)) (a:dD B L y (.list ys)) (b:xs.length+ys.length<=lim) (e:xs++ys=zs) (q:∀c,T C B ((m,c,.list zs)::L) (bb C.n k (.ref c::st) A) K):T C B L (.bin .Add::k,.ref y:: .ref x::st,A) K:=λ l H z f=>gK.JR (h H f) (a H f) b λ c aI=>(e▸q c).go z (f.new m aI)
def End (C:gY) (ms ns:aw) (B:ag) (L:Cells) (A:du) (K:dK):Prop:=∀st l H,gv C.n A l->Fr B L H->K .next st l H∧K .cont st l H
theorem cK {ms:aw} (e:End C ms ns B iK gg K) (b:sel ms L=iK) (c:sel ns A=gg):T C B L ([],st,A) K:=λ l H a f=>(e st l H (c▸a.sel ns) (b▸f.sel ms)).1
theorem yl {ms:aw} (e:End C ms ns B iK gg K) (b:sel ms L=iK) (c:sel ns A=gg):T C B L (.cont::k,st,A) K:=λ l H a f=>(e st l H (c▸a.sel ns) (b▸f.sel ms)).2
def Src (B:ag) (L:Cells) (o:ai) (xs:aV) (aK:ag->Prop):Prop:=∀H,Fr B L H->∀K':aV->(ag->Prop)->Prop,(∀ok,(∀H,aK H->ok H)->K' xs ok)->pF H K' o
theorem vH:Src B L (.tup xs) xs aK:=λ _ _ _ k=> .tup (k _ λ _ _=>trivial)
theorem ym (h:dD B L x (.list xs)) (a:∀H,aK H->H x=some (.list xs)):Src B L (.ref x) xs aK:=λ H f _ k=> .list (h H f) (k _ a)
theorem abt (h:dD B L x (.dict .int es)) (e:es.map (·.1)=xs) (a:∀H,aK H->∃es',H x=some (.dict .int es')∧es'.map (·.1)=xs):Src B L (.ref x) xs aK:=λ H f _ k=> .dict (h H f) (e▸k _ (e▸a))
theorem rR {α σ:Type} {cQ:List α->σ->ag} {cR:List α->σ->Cells} {I:List α->List α->σ->Prop} (h:dD B L x (.list xs)) (a:∀d e s,I d e s->dD (cQ d s) (cR d s) x (.list xs)):Src B L (.ref x) xs λ H=>hi λ d e s=>I d e s∧Fr (cQ d s) (cR d s) H:=ym h λ H z=>z.elim λ d e s z=>a d e s z.1 H z.2
theorem li {α σ:Type} {cQ:List α->σ->ag} {cR:List α->σ->Cells} {I:List α->List α->σ->Prop} (h:dD B L x (.list xs)) (a:∀d s,dD (cQ d s) (cR d s) x (.list xs)):Src B L (.ref x) xs λ H=>hi λ d e s=>I d e s∧Fr (cQ d s) (cR d s) H:=rR h λ d _ s _=>a d s
theorem NW {α σ:Type} {cQ:List α->σ->ag} {cR:List α->σ->Cells} {I:List α->List α->σ->Prop} (h:dD B L x (.dict .int es)) (e:es.map (·.1)=xs) (a:∀d e s,I d e s->dD (cQ d s) (cR d s) x (.dict .int es)):Src B L (.ref x) xs λ H=>hi λ d e s=>I d e s∧Fr (cQ d s) (cR d s) H:=abt h e λ H z=>z.elim λ d b s z=>⟨es,a d b s z.1 H z.2,e⟩
theorem tC {α σ:Type} {cQ:List α->σ->ag} {cR:List α->σ->Cells} {I:List α->List α->σ->Prop} (h:dD B L x (.dict .int es)) (e:es.map (·.1)=xs) (a:∀d s,dD (cQ d s) (cR d s) x (.dict .int es)):Src B L (.ref x) xs λ H=>hi λ d e s=>I d e s∧Fr (cQ d s) (cR d s) H:=NW h e λ d _ s _=>a d s
theorem nS (h:i<2^60):Src B L (.ic 0 (i:Nat)) ((cg i).map λ j=> .int (j:Nat)) aK:=λ H f K' k=> .ic (by decide) h (by
 have:(cg ((i:Nat) - 0:Int).toNat).map (λ j=>ai.int (0+(j:Nat)))=(cg i).map λ j=> .int (j:Nat):=by rw [Int.sub_zero];exact kf λ j _=>congrArg ai.int (Int.zero_add _)
 rw [this];exact k _ λ _ _=>trivial)
theorem abu (h:i<2^60) (a:j<2^60):Src B L (.ic (i:Nat) (j:Nat)) ((cg (j - i)).map λ x=> .int ((i+x:Nat):Int)) aK:=λ H f K' k=> .ic h a (by
 rw [show ((j:Int) - (i:Nat)).toNat=j - i from Int.toNat_sub j i];exact k _ λ _ _=>trivial)
def BH (C:gY) (t:gJ) (b:aJ) (st:aV) (x:ai) (l:cq) (H:ag) (a:sT):Prop:=∃a7,lM t x l=some a7∧runs C.W C.r C.E b st a7 H λ cy _ a7 aa=>a cy a7 aa
def F6 (C:gY) (t:gJ) (b:aJ) (a:cq) (x:ai) (H:ag) (K:KE):Prop:=∃a7,lM t x a=some a7∧runs C.W C.r C.E b [] a7 H λ cy s _ aa=>cy= .next∧∃v,s=[v]∧K v aa
theorem eL {α σ:Type} {c0:α->ai} {o:ai} {ys:List α} (ms ns:aw) {cQ:List α->σ->ag} {cR:List α->σ->Cells} {lf:List α->σ->du} (I:List α->List α->σ->Prop) (c:σ)
  (j:Src B L o (ys.map c0) λ H=>hi λ d e s=>I d e s∧Fr (cQ d s) (cR d s) H) (m:cQ [] c=B) (n:sel ms L=cR [] c) (p:sel ns A=lf [] c) (h0:I [] ys c)
  (step:∀d y e s K',ys=d++y::e->I d (y::e) s->(∀s',I (d++[y]) e s'->End C ms ns (cQ (d++[y]) s') (cR (d++[y]) s') (lf (d++[y]) s') K')->(∀{B L r v st' A},T C B L ([.ret],v::st,A) K->T C B L (.ret::r,v::st',A) K')->∃gg,tz C.n t (c0 y) (lf d s)=some gg∧T C (cQ d s) (cR d s) (bb C.n b st gg) K')
  (fin:∀s,I ys [] s->T C (cQ ys s) (cR ys s) (bb C.n k st (lf ys s)) K):T C B L (.each t b::k,o::st,A) K:=λ l H a f=>by
 have u:∀(ok:ag->Prop) (g:∀H,(hi λ d e s=>I d e s∧Fr (cQ d s) (cR d s) H)->ok H) (e d:List α) (s:σ) (l:cq) (H:ag),ys=d++e->I d e s->gv C.n (lf d s) l->Fr (cQ d s) (cR d s) H->q2 ok (BH C t b st) (e.map c0) l H λ cy a7 aa=>gn (λ st l H=>runs C.W C.r C.E k st l H K) K cy st a7 aa:=by
  intro ok g e
  induction e with
  | nil=>
   intro d s l H h i a f;rw [h9] at h;subst h;exact ⟨g _ ⟨_,_,_,i,f⟩,(fin s i).go a f⟩
  | cons y e ih=>
   intro d s l H h i a f;refine ⟨g _ ⟨_,_,_,i,f⟩,?_⟩;obtain ⟨gg,cM,w⟩:=step d y e s (λ cy _ a7 aa=>match cy with
    | .next=>q2 ok (BH C t b st) (e.map c0) a7 aa λ cy a7 aa=>gn (λ st l H=>runs C.W C.r C.E k st l H K) K cy st a7 aa
    | .cont=>q2 ok (BH C t b st) (e.map c0) a7 aa λ cy a7 aa=>gn (λ st l H=>runs C.W C.r C.E k st l H K) K cy st a7 aa
    | .brk=>gn (λ st l H=>runs C.W C.r C.E k st l H K) K .next st a7 aa
    | .ret v=>gn (λ st l H=>runs C.W C.r C.E k st l H K) K (.ret v) st a7 aa) h i (λ s' x _ a7 aa z D=>by
     have:=ih (d++[y]) s' a7 aa (by rw [h,jy];rfl) x z D
     exact ⟨this,this⟩) (λ q l H a f=>q l H a f)
   obtain ⟨a7,aD⟩:=yh cM a;exact ⟨a7,aD.1,w.go aD.2 f⟩
 exact j H f (λ xs ok=>q2 ok (BH C t b st) xs l H λ cy a7 aa=>gn (λ st l H=>runs C.W C.r C.E k st l H K) K cy st a7 aa) λ ok g=>u ok g ys [] c l H rfl h0 (p▸a.sel ns) (m▸n▸f.sel ms)
theorem rS {σ:Type} {d:aJ} (ms ns:aw) {cQ:σ->ag} {cR:σ->Cells} {lf:σ->du} (I:Nat->σ->Prop) (n:Nat) (b:σ)
  (o:cQ b=B) (p:sel ms L=cR b) (r:sel ns A=lf b) (h0:I n b)
  (step:∀n s K',I n s->(∀m s',m<n->I m s'->End C ms ns (cQ s') (cR s') (lf s') K')->(∀{B L c st' A},T C B L (bb C.n k st A) K->T C B L (.brk::c,st',A) K')->(∀{B L c v st' A},T C B L ([.ret],v::st,A) K->T C B L (.ret::c,v::st',A) K')->T C (cQ s) (cR s) (bb C.n d st (lf s)) K'):T C B L (.loop d::k,st,A) K:=λ l H a f P t=>by
 have u:∀(n:Nat) (s:σ) (l:cq) (H:ag),I n s->gv C.n (lf s) l->Fr (cQ s) (cR s) H->P l H:=by
  intro n
  induction n using Nat.strongRecOn with
  | _ n ih=>
   intro s l H i a f;refine t l H (step n s (λ cy _ a7 aa=>match cy with | .next=>P a7 aa | .cont=>P a7 aa | .brk=>gn (λ st l H=>runs C.W C.r C.E k st l H K) K .next st a7 aa | .ret v=>gn (λ st l H=>runs C.W C.r C.E k st l H K) K (.ret v) st a7 aa) i (λ m s' e g _ a7 aa h j=>⟨ih m e s' a7 aa g h j,ih m e s' a7 aa g h j⟩) (λ q l H a f=>q.go a f) (λ q l H a f=>q l H a f) |>.go a f)
 exact u n b l H h0 (r▸a.sel ns) (o▸p▸f.sel ms)
theorem yn (h:B x=some (.list xs)) (b:xs.length<lim) (a:xs++[v]=ys) (q:T C (B.upd x (.list ys)) L (bb C.n k (.none::st) A) K):T C B L (.cj e (.b .append) 1::k,v:: .ref x::st,A) K:=λ l H z f=>⟨_,rfl,.append (f.1 _ _ h) b (a▸q.go z (a▸f.base h))⟩
theorem abv (h:B x=some (.inst c g)) (a:pu c f=true) (q:T C (B.upd x (.inst c λ z=>if z=f then some v else g z)) L (bb C.n k st A) K):T C B L (.eh f::k,.ref x::v::st,A) K:=λ l H z e=>xa.mk (e.1 _ _ h) a (q.go z (e.base h))
theorem BI (h:B x=some (.dict sh es)) (ao:sh.has w) (b:es.length<lim) (a:hk es w v=fs) (q:T C (B.upd x (.dict sh fs)) L (bb C.n k st A) K):T C B L (.hl::k,w:: .ref x::v::st,A) K:=λ l H z f=>sR.dict (f.1 _ _ h) ao b (a▸q.go z (a▸f.base h))
noncomputable def cy:List (bp×ai)->bp->Option ai
 | [],_=>none
 | (g,v)::r,f=>if f=g then some v else cy r f
theorem ajv:cy []=p1:=rfl
theorem fo (m:Nat) {fs:List (bp×ai)} (h:lk m L=some (x,.inst c (cy fs))) (a:pu c f=true) (q:T C B ((m,x,.inst c (cy ((f,v)::fs)))::L) (bb C.n k st A) K):T C B L (.eh f::k,.ref x::v::st,A) K:=BD m h a q
theorem yo (n:Nat) (a:H x=none) (b:l.length=n) (q:T ⟨W,r,E,n⟩ H [(0,x,.inst c (cy []))] (bb n nR [] (qc 0 l)) (rQ Q)):runs W r E nR [] l (H.upd x (.inst c p1)) (jH Q):=q.go ⟨b,λ i v e=>(BE e).2⟩ ((Fr.nil H).new 0 a)
noncomputable def rT:Nat->aw->du->du->du
 | _,[],_,a=>a
 | i,j::b,A,a=>match lk j A with | some v=>rT (i+1) b A ((i,v)::a) | none=>rT (i+1) b A a
theorem abw {f:cq} {N:Nat} (a:gv n A l):∀(b:aw) (i:Nat) (c:du),gv N c f->(∀d j,b[d]? =some j->f[i+d]? =some (l[j]?).join)->gv N (rT i b A c) f:=by
 intro b
 induction b with
 | nil=>exact λ _ _ x _=>x
 | cons j b ih=>
  intro i c x h;have h':∀d g,b[d]? =some g->f[i+1+d]? =some (l[g]?).join:=λ d g e=>by rw [zq,Ie 1 d];exact h (d+1) g e
  show gv N (match lk j A with | some v=>rT (i+1) b A ((i,v)::c) | none=>rT (i+1) b A c) f
  cases e:lk j A with
  | none=>exact ih (i+1) c x h'
  | some v=>exact ih (i+1) _ ⟨x.1,λ m p k=>(gZ k).elim (λ q=>q.1▸q.2▸(h 0 j rfl).trans (congrArg (λ o=>some (Option.join o)) (a.2 _ _ e))) λ q=>x.2 _ _ q.2⟩ h'
theorem nT {α:Type} {c0:α->ai} {o:ai} {ei:aw} (m:Nat) (ys:List α) (p:α->ai) (r:Src B L o (ys.map c0) (Fr B L)) (u:ys.length<=lim)
  (step:∀y,y∈ys->∀K',(∀A,T ⟨C.W,C.r,C.E,n+ei.length⟩ B L ([],[p y],A) K')->∃gg,tz (n+ei.length) t (c0 y) (rT n ei A [])=some gg∧T ⟨C.W,C.r,C.E,n+ei.length⟩ B L (bb (n+ei.length) b [] gg) K')
  (q:∀c,T C B ((m,c,.list (ys.map p))::L) (bb C.n k (.ref c::st) A) K):T C B L (.comp t n ei b::k,o::st,A) K:=λ l H a f=>by
 have bo:gv (n+ei.length) (rT n ei A []) (pI n ei l):=
  abw a ei n [] ⟨by unfold pI;rw [cI,mn,cz],λ _ _ e=>by cases e⟩ λ d j e=>by
   unfold pI;rw [jA (by rw [mn];exact fJ _ _),mn,ah8,ff,e];rfl
 have w:∀(ok:ag->Prop) (g:∀H,Fr B L H->ok H) (zs:List α) (i:aV) (H:ag),(∀z∈zs,z∈ys)->i++zs.map p=ys.map p->Fr B L H->
   pH ok (F6 C t b (pI n ei l)) (zs.map c0) i H λ v H=>gn (λ st l H=>runs C.W C.r C.E k st l H K) K .next (v::st) l H:=by
  intro ok g zs
  induction zs with
  | nil=>
   intro i H _ e f;rw [kU,h9] at e;subst e;exact ⟨g H f,λ c aI=>(q c).go a (f.new m aI)⟩
  | cons z zs ih=>
   intro i H hz e f;refine ⟨g H f,?_⟩;obtain ⟨gg,cM,x⟩:=step z (hz z (.head _)) (λ cy s _ aa=>cy= .next∧∃v,s=[v]∧pH ok (F6 C t b (pI n ei l)) (zs.map c0) (i++[v]) aa λ v H=>gn (λ st l H=>runs C.W C.r C.E k st l H K) K .next (v::st) l H)
    λ _ _ aa _ D=>⟨rfl,_,rfl,ih _ aa (λ y E=>hz y (.tail _ E)) (by rw [jy];exact e) D⟩
   obtain ⟨a7,aD⟩:=yh cM bo;exact ⟨a7,aD.1,x.go aD.2 f⟩
 exact r H f (λ xs ok=>xs.length<=lim∧pH ok (F6 C t b (pI n ei l)) xs [] H λ v H=>gn (λ st l H=>runs C.W C.r C.E k st l H K) K .next (v::st) l H) λ ok g=>⟨by rw [cz];exact u,w ok g ys [] H (λ _ h=>h) rfl f⟩
end
end
section
structure au where
 t:Nat
 n:Nat
 rules:List (Nat×aw)
noncomputable def j5:Nat->List (Nat×aw)->aw
 | _,[]=>[]
 | i,r::rs=>eQ (r.2.length+1) i++j5 (i+1) rs
theorem qd:j5 i []=[]:=rfl
theorem l2 {r:Nat×aw} {rs:List (Nat×aw)}:j5 i (r::rs)=eQ (r.2.length+1) i++j5 (i+1) rs:=rfl
noncomputable def i4:Nat->List (Nat×aw)->aw
 | _,[]=>[]
 | k,r::rs=>k::i4 (k+(r.2.length+1)) rs
theorem rU:i4 i []=[]:=rfl
theorem oV {k:Nat} {r:Nat×aw} {rs:List (Nat×aw)}:i4 k (r::rs)=k::i4 (k+(r.2.length+1)) rs:=rfl
namespace au
noncomputable def R (G:au):Nat:=G.rules.length
noncomputable def left (G:au) (r:Nat):Nat:=(G.rules.getD r (0,[])).1
noncomputable def right (G:au) (r:Nat):aw:=(G.rules.getD r (0,[])).2
noncomputable def rV (G:au):aw:=j5 0 G.rules
noncomputable def yp (G:au):aw:=i4 0 G.rules
noncomputable def N (G:au):Nat:=G.rV.length
noncomputable def own (G:au) (i:Nat):Nat:=G.rV.getD i 0
noncomputable def off (G:au) (r:Nat):Nat:=G.yp.getD r 0
noncomputable def dot (G:au) (i:Nat):Nat:=i - G.off (G.own i)
noncomputable def cC (G:au) (i:Nat):Option Nat:=(G.right (G.own i))[G.dot i]?
noncomputable def nU (G:au) (s:Nat):aw:=(cg G.R).filter λ r=>G.left r==s
end au
theorem NX:∀(rs:List (Nat×aw)) (k:Nat),(i4 k rs).length=rs.length:=by
 intro rs
 induction rs with
 | nil=>
  exact λ _=>rfl
 | cons r rs ih=>
  intro k;simp [oV,rU,ih]
theorem NY:∀(rs:List (Nat×aw)) (i k r d:Nat),r<rs.length->d<=(rs.getD r (0,[])).2.length->k<=(i4 k rs).getD r 0∧(j5 i rs)[(i4 k rs).getD r 0 - k+d]? =some (i+r):=by
 intro rs
 induction rs with
 | nil=>exact λ _ _ _ _ h=>absurd h (wy _)
 | cons x rs ih=>
  intro i k r d J c;cases r with
  | zero=>
   simp only [oV,rU,l2,qd,Tt] at c ⊢;refine ⟨dn _,?_⟩;rw [qM,me,jY (by simp;exact a9 c (gj _)),zN,if_pos (a9 c (gj _))];rfl
  | succ r=>
   simp only [f7] at J;simp only [oV,rU,l2,qd,DB] at c ⊢;obtain ⟨a,b⟩:=ih (i+1) (k+(x.2.length+1)) r d (sC J) c;refine ⟨bB (fJ _ _) a,?_⟩;rw [jA (by rw [mn];exact hC (.l (.a .p (.s .q)) .r<| .l .r (.a .t .p)<| .g (.s .q) (.a .t .u)) rfl a (sb _ _)),mn]
   rw [(dg (qP (.l .p (.a .q (.a .r (.s .t)))<| .l (.a .u (.s .t)) (.a .z (.v 6))<| .l (.a .z .r) .p<| .g .u (.a .q (.v 6))) rfl (sb _ _) (bE (ef (hC (.l (.a .p (.s .q)) .r<| .l .r (.a .t .p)<| .g (.s .q) (.a .t .u)) rfl a (sb _ _)))) (bE (ef (ci (.l (.a .p (.s .q)) .r<| .g .p .r) rfl a)))) (qP (.l (.a .p .q) (.a .r (.s .t))<| .l .u (.a .p .z)<| .l (.a (.v 6) (.a .z (.s .t))) .u<| .g (.a (.v 6) .q) .r) rfl (sb _ _) (sb _ _) (bE (ef (ci (.l (.a .p (.s .q)) .r<| .g (.a .p (.s .q)) .r) rfl a)))):(i4 (k+(x.2.length+1)) rs).getD r 0 - k+d - (x.2.length+1)=(i4 (k+(x.2.length+1)) rs).getD r 0 - (k+(x.2.length+1))+d),b];congr 1;exact dg (bD (.g (.a (.s .p) .q) (.a .p (.s .q))) rfl) (bD (.g (.a .p (.s .q)) (.a (.s .p) .q)) rfl)
theorem abx:∀(rs:List (Nat×aw)) (i k j o:Nat),(j5 i rs)[j]? =some o->i<=o∧o - i<rs.length∧(i4 k rs).getD (o - i) 0<=k+j∧k+j<=(i4 k rs).getD (o - i) 0+(rs.getD (o - i) (0,[])).2.length:=by
 intro rs
 induction rs with
 | nil=>
  intro _ _ _ _ h;simp [l2,qd] at h
 | cons x rs ih=>
  intro i k j o h;simp only [l2,qd] at h
  by_cases b:j<x.2.length+1
  ·rw [jY (by simpa using b),zN,if_pos b] at h
   cases h;simp only [qM,oV,rU,Tt,f7];exact ⟨dn _,a9 (dz _) (gj _),fJ _ _,pl (iw b) _⟩
  ·rw [jA (by simp;exact fD b),mn] at h
   have a:=ih (i+1) (k+(x.2.length+1)) _ _ h;rw [(dg (eZ (.l (.a .p .q) .r<| .l .r (.a .t (.s .q))<| .g .p (.s .t)) rfl (bE (ef (bD (.l (.s .p) .q<| .g .p .q) rfl a.1))) (sb _ _)) (eZ (.l .p (.a .q .r)<| .l (.a .t (.s .r)) .p<| .g (.s .t) .q) rfl (sb _ _) (bE (ef (bD (.l (.s .p) .q<| .g (.s .p) .q) rfl a.1)))):o - i=(o - (i+1))+1)];simp only [oV,rU,DB,f7];exact ⟨bF (uu a.1),Sw a.2.1,hC (.l .p (.a (.a .q (.s .r)) .t)<| .l (.a .t (.s .r)) .u<| .g .p (.a .q .u)) rfl a.2.2.1 (bE (ef (bD (.l (.s .p) .q<| .g (.s .p) .q) rfl (fD b)))),uK (.l (.a (.a .p (.s .q)) .r) (.a .t .u)<| .l .z (.a .r (.s .q))<| .g (.a .p .z) (.a .t .u)) rfl a.2.2.2 (sb _ _)⟩
namespace au
variable {G:au}
theorem NZ (h:r<G.R) (hd:d<=(G.right r).length):G.rV[G.off r+d]? =some r:=by
 simpa [au.rV,au.off,au.yp] using ((NY G.rules 0 0 r d h hd).2)
theorem oW {d:Nat} (h:r<G.R) (hd:d<=(G.right r).length):G.off r+d<G.N:=by
 exact (cF.mp (NZ h hd)).1
theorem kC {r d:Nat} (h:r<G.R) (hd:d<=(G.right r).length):G.own (G.off r+d)=r:=by
 unfold au.own;rw [eS,(NZ h hd)];rfl
theorem ll {d:Nat} (h:r<G.R) (hd:d<=(G.right r).length):G.dot (G.off r+d)=d:=by
 unfold au.dot;rw [kC h hd];exact dg (ci (.l (.a .p .q) (.a .q .r)<| .g .p .r) rfl (bE (ef (bD (.g .p (.a .p .q)) rfl)))) (ci (.l (.a .p .q) (.a .r .p)<| .g .q .r) rfl (sb _ _))
theorem jK (h:i<G.N):G.own i<G.R∧G.off (G.own i)<=i∧i<=G.off (G.own i)+(G.right (G.own i)).length:=by
 have e:G.rV[i]? =some (G.own i):=by
  unfold au.own;rw [eS,c4 (show i<G.rV.length from h)];rfl
 refine eo λ a=> ?_;have aD:=abx G.rules 0 0 i _ e;have b:=aD.2.1;have c:=aD.2.2.1;have d:=aD.2.2.2;refine a ?_;simp only [Nat.sub_zero,me] at b c d;exact ⟨b,c,d⟩
theorem yq (h:i<G.N):G.dot i<=(G.right (G.own i)).length/\ i=G.off (G.own i)+G.dot i:=by
 obtain ⟨a,b,c⟩:=jK h;unfold au.dot;exact ⟨eZ (.l .p (.a .q .r)<| .l (.a .t .q) .p<| .g .t .r) rfl c (bE (ef (bD (.l .p .q<| .g .p .q) rfl b))),dg (ci (.l .p (.a .q .r)<| .g .p (.a .r .q)) rfl (sb _ _)) (ci (.l (.a .p .q) .r<| .g (.a .q .p) .r) rfl (bE (ef (bD (.l .p .q<| .g .p .q) rfl b))))⟩
theorem qe {X:Nat} (h:i<G.N) (e:G.cC i=some X):G.dot i<(G.right (G.own i)).length∧i+1<G.N∧G.own (i+1)=G.own i∧G.dot (i+1)=G.dot i+1∧X∈G.right (G.own i):=by
 unfold au.cC at e;obtain ⟨J,f⟩:=cF.mp e;obtain ⟨a,b⟩:=yq h;have c:i+1=G.off (G.own i)+(G.dot i+1):=dg (ci (.e .p (.a .q .r)<| .g (.s .p) (.a .q (.s .r))) rfl b) (ci (.f .p (.a .q .r)<| .g (.a .q (.s .r)) (.s .p)) rfl b);have d:=(jK h).1;refine ⟨J,?_,?_,?_,f▸jd J⟩
 ·rw [c];exact oW d J
 ·rw [c];exact kC d J
 ·rw [c];exact ll d J
noncomputable abbrev Ok (G:au):Prop:=eT (G.t<=G.n) (G.n<=12) (G.R<=20) (0<G.R) (G.N<=50) (A2 (∀r,r<G.R->G.left r<G.n) (∀r,r<G.R->∀s∈G.right r,s<G.n))
theorem F8:G.yp.length=G.R:=NX _ _
theorem tD (h:r<G.R):G.off r<G.N:=oW (d:=0) h (dz _)
theorem N0 (O:G.Ok) {X:Nat} (h:i<G.N) (e:G.cC i=some X):X<G.n:=O.6.2 _ (jK h).1 _ (qe h e).2.2.2.2
theorem tE:r∈G.nU s↔r<G.R∧G.left r=s:=by simp [au.nU]
end au
noncomputable abbrev aby (H:ag) (g:ak) (G:au) (fs:bp->Option ai) (nm e gc f h:ak) (j:aV) (c d:gb):Prop:=eT (H g=some (.inst .fq fs)) (fs .JI=some (.int G.t)) (fs .names=some (.ref nm)) (fs .rules=some (.ref e)) (fs .JJ=some (.ref gc)) (eT (fs .JK=some (.ref f)) (fs .owners=some (.ref h)) (H nm=some (.list j)) (j.length=G.n) (H e=some (.list (c.map .ref))) (eT (c.length=G.R) (∀i a,c[i]? =some a->∃b,H a=some (.inst .iy b)∧b .number=some (.int (i:Nat))∧b .left=some (.int (G.left i))∧b .right=some (.tup (nats (G.right i)))) (H gc=some (.list (d.map .ref))) (d.length=G.n) (∀s a,d[s]? =some a->H a=some (.list (nats (G.nU s)))) (A2 (H f=some (.list (nats G.yp))) (H h=some (.list (nats G.rV))))))
def dS (H:ag) (g:ak) (G:au):Prop:=hi λ fs nm a=>hi λ gc b c=>hi λ d e f=>aby H g G fs nm a gc b c d e f
theorem dS.ext {g:ak} (x:dS H g G) (k:Ext H aa):dS aa g G:=by
 obtain ⟨fs,nm,b,gc,c,d,f,j,l,h⟩:=x;exact ⟨fs,nm,b,gc,c,d,f,j,l,k _ _ h.1,h.2,h.3,h.4,h.5,h.6.1,h.6.2,k _ _ h.6.3,h.6.4,k _ _ h.6.5,h.6.6.1,λ i a e=>by
  obtain ⟨m,a1,a2⟩:=h.6.6.2 i a e;exact ⟨m,k _ _ a1,a2⟩,k _ _ h.6.6.3,h.6.6.4,λ s a e=>k _ _ (h.6.6.5 s a e),k _ _ h.6.6.6.1,k _ _ h.6.6.6.2⟩
variable {W:a0} {P:eg} {r:Nat} {E:ag->Prop} {H:ag} {Q:KE} {g:ak} {G:au}
theorem qf {b:Nat} (h:a<b) (c:b<=50:=by decide):a<2^60:=bx h (bB c (by decide))
theorem abz (B:Base W P) (O:G.Ok) (x:dS H g G) (q:∀aa,Ext H aa->Q (.int G.n) aa):dw W (r+1) .Ad [.ref g] H Q E:=by
 obtain ⟨fs,nm,a,gc,b,c,d,e,i,h⟩:=x;exact ZT B (fN 1 rfl<|bO (aL h.1) rfl h.3<|iN (aL h.6.3) h.6.4 (bB O.2 (by decide))<|e9 λ aa f=>q aa f.1)
theorem abA (B:Base W P) (x:dS H g G) {i:Int} (q:∀aa,Ext H aa->Q (.bool (decide (i<G.t))) aa):dw W (r+1) .Ae [.ref g,.int i] H Q E:=by
 obtain ⟨fs,nm,a,gc,b,c,d,e,j,h⟩:=x;exact ZU B (fN 2 rfl<|bO (aL h.1) rfl h.2<|e9 λ aa f=>q aa f.1)
theorem abB (B:Base W P) (O:G.Ok) (x:dS H g G) (a:s<G.n) (q:∀c aa,Ext H aa->H c=none->aa c=some (.list (nats (G.nU s)))->Q (.ref c) aa):dw W (r+1) .uL [.ref g,.int s] H Q E:=by
 refine eo λ d=> ?_;obtain ⟨fs,nm,j,gc,k,l,m,n,e,h⟩:=x;refine d ?_;have b:s<e.length:=h.6.6.4.symm▸a;have i:(nats (G.nU s)).length<=lim:=by
  rw [eu];refine bB (qN _ _) (bB ?_ (by decide:20<=lim))
  rw [gy];exact O.3
 exact ZV B (fN 2 rfl<|bO (aL h.1) rfl h.5<|d4 (aL h.6.6.3) (qf a (bB O.2 (by decide))) ((ff ..).trans (congrArg _ (c4 b)))<|F2 0 (aL (h.6.6.5 s _ (c4 b))) i λ c=>e9 λ aa f=>q c aa f.1 (f.2 0 _ _ rfl) (f.3 0 _ _ rfl))
theorem abC (B:Base W P) (O:G.Ok) (x:dS H g G) {k:Nat} {d:Int} (ao:k<G.R) (q:∀aa,Ext H aa->Q (.int (G.off k+d)) aa):dw W (r+1) .w3 [.ref g,.int k,.int d] H Q E:=by
 obtain ⟨fs,nm,a,gc,b,c,e,i,j,h⟩:=x;exact ZW B (fN 3 rfl<|bO (aL h.1) rfl h.6.1<|d4 (aL h.6.6.6.1) (qf ao (bB O.3 (by decide))) (l0 (au.F8.symm▸ao))<|e9 λ aa f=>q aa f.1)
theorem abD (B:Base W P) (O:G.Ok) (x:dS H g G) (a:i<G.N) (q:∀aa,Ext H aa->Q (.int (G.own i)) aa):dw W (r+1) .Af [.ref g,.int i] H Q E:=by
 refine eo λ b=> ?_;obtain ⟨fs,nm,c,gc,d,e,j,k,l,h⟩:=x;refine b ?_;exact ZX B (fN 2 rfl<|bO (aL h.1) rfl h.6.2<|d4 (aL h.6.6.6.2) (qf a O.5) (l0 a)<|e9 λ aa f=>q aa f.1)
theorem BJ (a:i<G.N):((i:Nat):Int) - (G.off (G.own i):Nat)=(G.dot i:Nat):=(Int.ofNat_sub (au.jK a).2.1).symm
theorem abE (B:Base W P) (O:G.Ok) (x:dS H g G) (a:i<G.N) (q:∀aa,Ext H aa->Q (.int (G.dot i:Nat)) aa):dw W (r+1) .Ag [.ref g,.int i] H Q E:=by
 obtain ⟨fs,nm,c,gc,d,e,j,k,l,h⟩:=x;have b:=(au.jK a).1;exact ZY B (fN 2 rfl<|bO (aL h.1) rfl h.6.1<|bO (aL h.1) rfl h.6.2<|d4 (aL h.6.6.6.2) (qf a O.5) (l0 a)<|d4 (aL h.6.6.6.1) (qf b (bB O.3 (by decide))) (l0 (au.F8.symm▸b))<|e9 λ aa f=>(BJ a).symm▸q aa f.1)
noncomputable def au.j6 (G:au) (i:Nat):Int:=match G.cC i with | some s=>s | none=> -1
theorem abF (B:Base W P) (O:G.Ok) (x:dS H g G) (a:i<G.N) (q:∀aa,Ext H aa->Q (.int (G.j6 i)) aa):dw W (r+1) .Ah [.ref g,.int i] H Q E:=by
 refine eo λ d=> ?_;obtain ⟨fs,nm,o,gc,p,s,t,n,u,h⟩:=x;refine d ?_;have c:=(au.jK a).1;have j:G.own i<n.length:=h.6.6.1.symm▸c;refine eo λ d=> ?_;obtain ⟨v,k⟩:=h.6.6.2 _ _ (c4 j);refine d ?_;have l:=qf c (bB O.3 (by decide))
 have m:(G.right (G.own i)).length<=50:=bB (bF (a9 (uf _ _) ((au.oW (G:=G) c (dn _))))) O.5;refine ZZ B (fN 4 rfl<|bO (aL h.1) rfl h.4<|bO (aL h.1) rfl h.6.2<|d4 (aL h.6.6.6.2) (qf a O.5) (l0 a)<|d4 (aL h.6.5) l ((ff ..).trans (congrArg _ (c4 j)))<|bO (aL k.1) rfl k.2.2.2<|bO (aL h.1) rfl h.6.1<|bO (aL h.1) rfl h.6.2<|d4 (aL h.6.6.6.2) (qf a O.5) (l0 a)<|d4 (aL h.6.6.6.1) l (l0 (au.F8.symm▸c))<|yj (eu _) (bB m (by decide))<|fv (λ hd=> ?_) λ hd=> ?_)
 ·have b:G.dot i<(G.right (G.own i)).length:=hx.mp ((BJ a)▸hd);have e:(G.right (G.own i))[G.dot i]? =some ((G.right (G.own i)).getD (G.dot i) 0):=by rw [eS,c4 b];rfl
  have:G.j6 i=((G.right (G.own i)).getD (G.dot i) 0:Nat):=by unfold au.j6 au.cC;rw [e]
  show T _ H [] (.sub::[.ret],[.int (((i:Nat):Int) - (G.off (G.own i):Nat)),.tup (nats (G.right (G.own i)))],_) _;rw [BJ a];exact rN (qf b m) (l0 b)<|e9 λ aa f=>this▸q aa f.1
 ·have:G.j6 i= -1:=by
   unfold au.j6 au.cC;rw [qD (fD λ b=>hd ((BJ a).symm▸hx.mpr b))]
  exact e9 λ aa f=>this▸q aa f.1
theorem dS.inst (x:dS H g G):∃fs,H g=some (.inst .fq fs):=by obtain ⟨fs,nm,a,gc,b,c,d,e,f,h⟩:=x;exact ⟨fs,h.1⟩
section
variable {W:a0} {P:eg} {r n:Nat} {E:ag->Prop} {B:ag} {L:Cells} {k:aJ} {st:aV} {A:du} {K:dK} {g:ak} {G:au} {e:Bool}
theorem jm {m:aP} {C:gY} (x:dS B g G) (q:T C B L (bb C.n k (.ref g::st) A) K):T C B L (.cG (.o .fq m)::k,.ref g::st,A) K:=by
 obtain ⟨fs,a⟩:=x.inst;exact p9 (aL a) q
theorem F9 (Z:Base W P) (O:G.Ok) (x:dS B g G) (a:i<G.N) (q:T ⟨W,r+1,E,n⟩ B L (bb n k (.int (G.j6 i)::st) A) K):T ⟨W,r+1,E,n⟩ B L (.cj e (.o .fq .Ah) 1::k,.int (i:Nat):: .ref g::st,A) K:=by
 exact mN rfl λ l H z f=>abF Z O (x.ext f.1) a λ aa e=>q.go z (f.more e)
theorem N2 {i:Int} (Z:Base W P) (x:dS B g G) (q:T ⟨W,r+1,E,n⟩ B L (bb n k (.bool (decide (i<G.t))::st) A) K):T ⟨W,r+1,E,n⟩ B L (.cj e (.o .fq .Ae) 1::k,.int i:: .ref g::st,A) K:=by
 exact mN rfl λ l H z f=>abA Z (x.ext f.1) λ aa e=>q.go z (f.more e)
theorem BK (Z:Base W P) (O:G.Ok) (x:dS B g G) (a:i<G.N) (q:T ⟨W,r+1,E,n⟩ B L (bb n k (.int (G.own i:Nat)::st) A) K):T ⟨W,r+1,E,n⟩ B L (.cj e (.o .fq .Af) 1::k,.int (i:Nat):: .ref g::st,A) K:=by
 exact mN rfl λ l H z f=>abD Z O (x.ext f.1) a λ aa e=>q.go z (f.more e)
theorem Ga {i:Nat} (Z:Base W P) (O:G.Ok) (x:dS B g G) (a:i<G.N) (q:T ⟨W,r+1,E,n⟩ B L (bb n k (.int (G.dot i:Nat)::st) A) K):T ⟨W,r+1,E,n⟩ B L (.cj e (.o .fq .Ag) 1::k,.int (i:Nat):: .ref g::st,A) K:=by
 exact mN rfl λ l H z f=>abE Z O (x.ext f.1) a λ aa e=>q.go z (f.more e)
theorem N3 {d:Nat} (Z:Base W P) (O:G.Ok) (x:dS B g G) (a:s<G.R) (q:T ⟨W,r+1,E,n⟩ B L (bb n k (.int (G.off s+d:Nat)::st) A) K):T ⟨W,r+1,E,n⟩ B L (.cj e (.o .fq .w3) 2::k,.int (d:Nat):: .int (s:Nat):: .ref g::st,A) K:=by
 exact mN rfl λ l H z f=>abC Z O (x.ext f.1) a λ aa e=>q.go z (f.more e)
theorem N4 {s:Nat} (Z:Base W P) (O:G.Ok) (x:dS B g G) (a:s<G.R) (q:T ⟨W,r+1,E,n⟩ B L (bb n k (.int (G.off s:Nat)::st) A) K):T ⟨W,r+1,E,n⟩ B L (.cj e (.o .fq .w3) 2::k,.int 0:: .int (s:Nat):: .ref g::st,A) K:=N3 (d:=0) Z O x a q
theorem abG (m:Nat) (Z:Base W P) (O:G.Ok) (x:dS B g G) (a:s<G.n) (q:∀c,T ⟨W,r+1,E,n⟩ B ((m,c,.list (nats (G.nU s)))::L) (bb n k (.ref c::st) A) K):T ⟨W,r+1,E,n⟩ B L (.cj e (.o .fq .uL) 1::k,.int (s:Nat):: .ref g::st,A) K:=by
 exact mN rfl λ l H z f=>abB Z O (x.ext f.1) a λ c aa e J b=>(q c).go z (f.put e m J b)
theorem dS.BL (x:dS B g G):hi λ fs c em=>B g=some (.inst .fq fs)∧fs .rules=some (.ref c)∧B c=some (.list ((cg G.R).map em))∧∀s,s<G.R->dB λ a b=>em s= .ref a∧B a=some (.inst .iy b)∧b .number=some (.int (s:Nat))∧b .left=some (.int (G.left s))∧b .right=some (.tup (nats (G.right s))):=by
 obtain ⟨fs,nm,c,gc,m,n,o,d,p,h⟩:=x;refine ⟨fs,c,λ i=> .ref (d.getD i 0),h.1,h.4,h.6.5.trans (congrArg (λ l=>some (c5.list l)) (agH λ i=> ?_)),λ s j=> ?_⟩
 ·rw [ff,ff]
  by_cases f:i<G.R
  ·rw [DC f];show _=some (ai.ref (d.getD i 0));rw [eS,c4 (h.6.6.1.symm▸f)];rfl
  ·rw [qD (by rw [h.6.6.1];exact fD f),qD (by rw [gy];exact fD f)];rfl
 ·have e:=c4 (h.6.6.1.symm▸j:s<d.length);exact (h.6.6.2 _ _ e).elim λ b k=>⟨_,b,(by show ai.ref (d.getD s 0)=_;rw [eS,e];rfl),k⟩
theorem dS.abH (x:dS B g G) (f:s<G.R):hi λ fs c rs=>dB λ a b=>B g=some (.inst .fq fs)∧fs .rules=some (.ref c)∧B c=some (.list rs)∧rs[s]? =some (.ref a)∧B a=some (.inst .iy b)∧b .number=some (.int (s:Nat))∧b .left=some (.int (G.left s))∧b .right=some (.tup (nats (G.right s))):=by
 refine eo λ e=> ?_;obtain ⟨fs,c,em,d⟩:=x.BL;refine e ?_;refine eo λ e=> ?_;obtain ⟨a,b,h⟩:=d.2.2.2 s f;refine e ?_;exact ⟨fs,c,_,a,b,d.1,d.2.1,d.2.2.1,by rw [ff,DC f,<- h.1];rfl,h.2⟩
end
theorem Fr.get {L:Cells} (f:Fr B L H) (n:Nat) (e:lk n L=some (x,o)):H x=some o:=f.3 n x o e
theorem ajw {α:Type} {o:α} {s:α->Prop} (h:s o):∃o,s o:=⟨o,h⟩
theorem abI (Z:Base W P) {syms:aw} {n f:ak} (b:H n=some (.list (bools nul))) (c:H f=some (.list (nats aT)))
  (i:∀x∈syms,x<nul.length∧x<aT.length∧x<1000) (q:∀aa,Ext H aa->Q (.tup [.int (firstOf nul aT syms 0).1,.bool (firstOf nul aT syms 0).2]) aa):
  dw W (r+1) .z6 [.tup (nats syms),.ref n,.ref f] H Q E:=by
 refine Zo Z (fN 5 rfl (eL (c0:=λ n:Nat=> .int n) (ys:=syms) [] [1,2,3] (cQ:=λ _ _=>H) (cR:=λ _ _=>[]) (lf:=λ _ (m:Nat)=>[(1,.ref n),(2,.ref f),(3,.int m)]) (λ _ y m=>firstOf nul aT syms 0=firstOf nul aT y m) 0 vH rfl rfl rfl rfl
  (λ d y e m K' h aK j k=>⟨_,rfl,?_⟩) λ m aK=>e9 λ aa f=>by rw [aK] at q;exact q aa f.1))
 have g:=i y (by rw [h];simp)
 refine d4 (aL c) (bX g.2.2 (by decide)) (l0 g.2.1)<|oT<|d4 (aL b) (bX g.2.2 (by decide)) (Bz g.1) ?_
 exact nP (λ a=>cK (j _ (aK.trans (if_pos a))) rfl rfl) λ a=>k (e9 λ aa f=>by rw [aK.trans (if_neg (by rw [a];decide))] at q;exact q aa f.1)
section
variable {n:Nat} {B:ag} {L:Cells} {k:aJ} {st:aV} {A:du} {K:dK} {e:Bool}
theorem N5 {syms:aw} (Z:Base W P) (J:dD B L eX (.list (bools nul))) (a:dD B L eE (.list (nats aT))) (b:∀s∈syms,s<nul.length∧s<aT.length∧s<1000) (q:T ⟨W,r+1,E,n⟩ B L (bb n k (.tup [.int (firstOf nul aT syms 0).1,.bool (firstOf nul aT syms 0).2]::st) A) K):T ⟨W,r+1,E,n⟩ B L (.call e .z6 3::k,.ref eE:: .ref eX:: .tup (nats syms)::st,A) K:=
 fm rfl rfl λ l H z f=>abI Z (J H f) (a H f) b λ aa e=>q.go z (f.more e)
theorem N6 (Z:Base W P) (O:G.Ok) (x:dS B g G) (q:T ⟨W,r+1,E,n⟩ B L (bb n k (.int (G.n:Nat)::st) A) K):T ⟨W,r+1,E,n⟩ B L (.cj e (.o .fq .Ad) 0::k,.ref g::st,A) K:=by
 exact mN rfl λ l H z f=>abz Z O (x.ext f.1) λ aa e=>q.go z (f.more e)
end
end
noncomputable def dJ (es:a8):List (ai×ai):=es.map λ p=>(.int p.1,.int p.2)
noncomputable def br (es:a8) (i:Nat):Option Nat:=(es.find? λ p=>p.1==i).map (·.2)
noncomputable def d5 (es:a8) (i v:Nat):a8:=if (br es i).isSome then es.map (λ p=>if p.1==i then (i,v) else p) else es++[(i,v)]
noncomputable def ar (es:a8):aw:=es.map (·.1)
theorem N7 (i:Nat):br [] i=none:=rfl
theorem lm (p:Nat×Nat) (es:a8) (i:Nat):br (p::es) i=if p.1=i then some p.2 else br es i:=by
 unfold br;rw [C1]
 by_cases h:p.1=i
 ·simp [h]
 ·rw [if_neg h,show (p.1==i)=false from by simpa using h]
theorem g4 {v:Nat} (h:br es i=some v):(i,v)∈es:=by
 induction es with
 | nil=>cases h
 | cons p es ih=>
  rw [lm] at h
  split at h
  ·cases h;rename_i e;subst e;exact .head _
  ·exact .tail _ (ih h)
theorem ew (a:(ar es).Nodup) {i v:Nat} (h:(i,v)∈es):br es i=some v:=by
 induction es with
 | nil=>cases h
 | cons p es ih=>
  unfold ar at a;rw [fe,kP] at a;rw [lm];rcases dZ.mp h with rfl | h
  ·rw [if_pos rfl]
  ·rw [if_neg,ih a.2 h];rintro rfl;exact a.1 (Im (f:=(·.1)) h)
theorem ey {es:a8}:(br es i).isSome=true↔i∈ar es:=by
 induction es with
 | nil=>simp [br,ar]
 | cons p es ih=>
  rw [lm];unfold ar at ih ⊢;rw [fe,dZ]
  by_cases h:p.1=i
  ·simp [h]
  ·rw [if_neg h,ih];exact ⟨.inr,λ x=>x.elim (λ e=>absurd e.symm h) id⟩
theorem nW:br es i=none↔i∉ar es:=by
 rw [<- ey];cases br es i<;>simp
theorem N8 {fs:a8}:br (es++fs) i=(br es i).or (br fs i):=by
 induction es with
 | nil=>simp [br]
 | cons p es ih=>rw [zW,lm,lm,ih];split<;>simp
theorem abJ (es:a8) (i v j:Nat):br (es.map λ p=>if p.1==i then (i,v) else p) j=if j=i then (br es i).map (λ _=>v) else br es j:=by
 induction es with
 | nil=>simp [br]
 | cons p es ih=>
  rw [fe,lm,lm,lm,ih]
  by_cases h:p.1=i
  ·by_cases a:j=i
   ·subst a;simp [h]
   ·have:¬i=j:=λ e=>a e.symm;have b:¬p.1=j:=λ e=>a (e.symm.trans h);simp [h,a,this]
  ·by_cases a:j=i
   ·subst a;simp [h]
   ·simp [h,a]
theorem oX (es:a8) (i v j:Nat):br (d5 es i v) j=if j=i then some v else br es j:=by
 unfold d5
 by_cases h:(br es i).isSome=true
 ·rw [if_pos h,abJ]
  by_cases a:j=i
  ·rw [if_pos a,if_pos a];obtain ⟨w,e⟩:=hh.mp h;rw [e];rfl
  ·rw [if_neg a,if_neg a]
 ·rw [if_neg h,N8]
  by_cases a:j=i
  ·subst a;rw [if_pos rfl];have:br es j=none:=by cases e:br es j<;>simp [e] at h ⊢
   rw [this,lm,if_pos rfl];rfl
  ·rw [if_neg a,lm,if_neg (λ e=>a e.symm),N7];simp
theorem abK (es:a8) (i v:Nat):ar (es.map λ p=>if p.1==i then (i,v) else p)=ar es:=by
 unfold ar;rw [e5];refine kf λ p _=> ?_;simp only [wU]
 split
 ·rename_i h;exact (beq_iff_eq.mp h).symm
 ·rfl
theorem N9 (es:a8) (i v:Nat):ar (d5 es i v)=if i∈ar es then ar es else ar es++[i]:=by
 unfold d5
 by_cases h:(br es i).isSome=true
 ·rw [if_pos h,abK,if_pos (ey.mp h)]
 ·rw [if_neg h,if_neg (λ e=>h (ey.mpr e))];simp [ar]
theorem BM (c:(ar es).Nodup) (i v:Nat):(ar (d5 es i v)).Nodup:=by
 rw [N9]
 split
 ·exact c
 ·rename_i h;rw [gx];exact ⟨c,by simp,λ a e b d=>by rw [b3] at d;subst d;rintro rfl;exact h e⟩
theorem yt {v:Nat}:j∈ar (d5 es i v)↔j=i∨j∈ar es:=by
 rw [N9]
 split
 ·rename_i h;exact ⟨.inr,λ x=>x.elim (λ e=>e▸h) id⟩
 ·rw [c6,b3];exact Or.comm
noncomputable def oY (es:a8):Nat:=(es.map λ p=>p.2+1).sum
theorem Gb (p:Nat×Nat) (es:a8):oY (p::es)=p.2+1+oY es:=by simp [oY]
theorem abL {v:Nat} (h:i∉ar es):(es.map λ p=>if p.1==i then (i,v) else p)=es:=by
 have:∀p∈es,(if p.1==i then (i,v) else p)=p:=λ p a=>by
  rw [if_neg];intro e;exact h ((beq_iff_eq.mp e)▸Im a)
 exact (kf this).trans (List.map_id' es)
theorem abM (b:(ar es).Nodup) (i v:Nat):oY (d5 es i v)+(match br es i with | some m=>m | none=>0)=oY es+v+(match br es i with | some _=>0 | none=>1):=by
 unfold d5;cases e:br es i with
 | none=>rw [if_neg (by simp)];simp [oY];exact dg (bD (.g (.a .p (.s .q)) (.s (.a .p .q))) rfl) (bD (.g (.s (.a .p .q)) (.a .p (.s .q))) rfl)
 | some m=>
  simp only [aij,if_true,sH]
  induction es with
  | nil=>cases e
  | cons p es ih=>
   unfold ar at b;rw [fe,kP] at b;rw [lm] at e;rw [fe,Gb,Gb]
   by_cases a:p.1=i
   ·rw [if_pos a] at e;cases e;rw [abL (λ x=>b.1 (a▸x))];simp [a];exact dg (ci (.g (.a (.a (.s .p) .q) .r) (.a (.a (.s .r) .q) .p)) rfl) (ci (.g (.a (.a (.s .p) .q) .r) (.a (.a (.s .r) .q) .p)) rfl)
   ·rw [if_neg a] at e;have:=ih b.2 e;simp only [a,beq_iff_eq,if_false] at this ⊢;exact dg (hC (.e (.a .p .q) (.a .r .t)<| .g (.a (.a (.s .u) .p) .q) (.a (.a (.s .u) .r) .t)) rfl this) (hC (.f (.a .p .q) (.a .r .t)<| .g (.a (.a (.s .u) .r) .t) (.a (.a (.s .u) .p) .q)) rfl this)
theorem jM:∀(N:Nat) (l:aw),l.Nodup->(∀x∈l,x<N)->l.length<=N:=by
 intro N
 induction N with
 | zero=>
  intro l _ h;cases l with | nil=>exact dn _ | cons a l=>exact absurd (h a (.head _)) (wz (ct (.g (.k 0) .p) rfl))
 | succ N ih=>
  intro l b h;have J:=ih (l.erase N) (b.erase N) λ x c=>by
   have d:x≠N:=by rintro rfl;exact (List.Nodup.not_mem_erase b) c
   exact sA (bD (.l (.s .p) (.s .q)<| .g .p .q) rfl (h x (List.mem_of_mem_erase c))) d
  rw [List.length_erase] at J
  split at J<;>first | exact Nat.sub_le_iff_le_add.mp J | exact DD J
theorem f3 (es:a8):(ar es).length=es.length:=by simp [ar]
theorem abN {es:a8} {b:Nat} (h:∀p∈es,p.2<b):oY es<=es.length*b:=by
 induction es with
 | nil=>simp [oY]
 | cons p es ih=>
  rw [Gb,f7,zX];exact eZ (.l (.s .p) .q<| .l .r .t<| .g (.a (.s .p) .r) (.a .t .q)) rfl (h p (.head _)) (ih λ q a=>h q (.tail _ a))
theorem h1 (es:a8) (i:Nat):cU (dJ es) (.int i)=(br es i).map λ (v:Nat)=>ai.int v:=by
 induction es with
 | nil=>rfl
 | cons p es ih=>
  unfold cU dJ at ih ⊢;rw [fe,C1,lm]
  by_cases h:p.1=i
  ·subst h;simp
  ·have:¬(ai.int (p.1:Nat)=ai.int (i:Nat)):=λ e=>h (fU (ai.int.inj e));rw [if_neg h];simp only [this,decide_false];exact ih
theorem qg (es:a8) (i v:Nat):hk (dJ es) (.int i) (.int v)=dJ (d5 es i v):=by
 unfold hk d5;rw [h1];cases e:br es i with
 | none=>simp [dJ]
 | some m=>
  simp only [DE,aij,if_true];unfold dJ;rw [e5,e5];refine kf λ p _=> ?_;simp only [wU]
  by_cases h:p.1=i
  ·simp [h]
  ·have:¬(ai.int (p.1:Nat)=ai.int (i:Nat)):=λ e=>h (fU (ai.int.inj e));simp [h,this]
theorem j7 (es:a8):(dJ es).length=es.length:=by simp [dJ]
theorem oZ (es:a8):(dJ es).map (·.1)=nats (ar es):=by simp [dJ,nats,ar]
def au.Child (G:au) (i j:Nat):Prop:=dB λ b r=>G.cC i=some b∧G.t<=b∧r∈G.nU b∧j=G.off r
noncomputable def au.hX (G:au) (nul:cO) (aT:aw) (i:Nat):Nat×Bool:=firstOf nul aT ((G.right (G.own i)).drop (G.dot i+1)) 0
inductive fg (G:au) (core:Nat->Prop):Nat->Prop
 | base {i:Nat}:core i->fg G core i
 | step {i j:Nat}:fg G core i->G.Child i j->fg G core j
inductive d9 (G:au) (nul:cO) (aT:aw) (core:Nat->Prop) (K:Nat->Nat->Prop) (τ:Nat):Nat->Prop
 | base {i:Nat}:core i->K i τ->d9 G nul aT core K τ i
 | gP {i j:Nat}:fg G core i->G.Child i j->(G.hX nul aT i).1.testBit τ=true->d9 G nul aT core K τ j
 | prop {i j:Nat}:d9 G nul aT core K τ i->G.Child i j->(G.hX nul aT i).2=true->d9 G nul aT core K τ j
def cm (K:a8):Nat->Prop:=λ i=>i∈ar K
def cE (K:a8):Nat->Nat->Prop:=λ i τ=>∃m,(i,m)∈K∧m.testBit τ=true
noncomputable abbrev c1 (G:au) (nul:cO) (aT:aw) (K es:a8):Prop:=iV ((ar es).Nodup) (∀i,i∈ar es↔fg G (cm K) i) (∀i m,br es i=some m->∀τ,m.testBit τ=true↔d9 G nul aT (cm K) (cE K) τ i) (∀i m,br es i=some m->i<G.N∧m<2^12)
theorem yu {b:Nat}:(∀τ,a.testBit τ=true->b.testBit τ=true)↔b|||a=b:=by
 constructor
 ·intro h;refine pC λ τ=> ?_;rw [hA];cases J:b.testBit τ with
  | true=>simp
  | false=>
   cases c:a.testBit τ with
   | true=>rw [h τ c] at J;cases J
   | false=>rfl
 ·intro h τ b8;rw [<- h,hA,b8,Tu]
theorem Oa {b:Nat} (h:b|||a≠b):b<b|||a:=by
 exact sA (bD (.l .p .q<| .g .p .q) rfl (Nat.left_le_or:b<=b|||a)) (hy h)
theorem Ob {K:a8} (y:(ar K).Nodup) (s:(ar es).Nodup) (bK:∀i m,br es i=some m->i<G.N∧m<2^12)
  (cw:∀i m,(i,m)∈K->∃a,br es i=some a∧∀τ,m.testBit τ=true->a.testBit τ=true)
  (s1:∀i∈ar es,fg G (cm K) i) (t:∀i m,br es i=some m->∀τ,m.testBit τ=true->d9 G nul aT (cm K) (cE K) τ i)
  (cl:∀i b,br es i=some b->∀j,G.Child i j->∃m,br es j=some m∧(∀τ,(G.hX nul aT i).1.testBit τ=true->m.testBit τ=true)∧((G.hX nul aT i).2=true->∀τ,b.testBit τ=true->m.testBit τ=true)):
  c1 G nul aT K es:=by
 have g:∀i,fg G (cm K) i->∃m,br es i=some m:=λ i h=>by
  induction h with
  | base h=>
   obtain ⟨p,u,rfl⟩:=bH.mp h;obtain ⟨m,v⟩:=cw p.1 p.2 u;exact ⟨m,v.1⟩
  | step _ c ih=>
   obtain ⟨b,e⟩:=ih;obtain ⟨m,w⟩:=cl _ _ e _ c;exact ⟨m,w.1⟩
 have x:∀τ i,d9 G nul aT (cm K) (cE K) τ i->∃m,br es i=some m∧m.testBit τ=true:=λ τ i h=>by
  induction h with
  | base J d=>
   obtain ⟨m,k⟩:=d;obtain ⟨a,l⟩:=cw _ _ k.1;exact ⟨a,l.1,l.2 τ k.2⟩
  | gP J d f=>
   obtain ⟨b,e⟩:=g _ J;obtain ⟨m,n⟩:=cl _ _ e _ d;exact ⟨m,n.1,n.2.1 τ f⟩
  | prop _ d f ih=>
   obtain ⟨b,o⟩:=ih;obtain ⟨m,q⟩:=cl _ _ o.1 _ d;exact ⟨m,q.1,q.2.2 f τ o.2⟩
 refine ⟨s,λ i=>⟨s1 i,λ h=> ?_⟩,λ i m e τ=>⟨t i m e τ,λ h=> ?_⟩,bK⟩
 ·obtain ⟨m,e⟩:=g i h;exact ey.mp (by rw [e];rfl)
 ·obtain ⟨a,aD⟩:=x τ i h;have r:=aD.1;rw [e] at r;cases r;exact aD.2
section
variable {W:a0} {P:eg} {r:Nat} {E:ag->Prop} {H:ag} {Q:KE} {g:ak} {G:au}
noncomputable def cS (K:a8):ai:= .tup (K.map λ p=> .tup [.int p.1,.int p.2])
noncomputable def BN:Nat:=300000
noncomputable abbrev nX (G:au) (nul:cO) (aT:aw) (K es:a8) (wait:aw) (but:Nat->Prop):Prop:=eT ((ar es).Nodup) (∀i m,br es i=some m->i<G.N∧m<2^12) (∀i m,(i,m)∈K->∃a,br es i=some a∧∀τ,m.testBit τ=true->a.testBit τ=true) (∀i∈ar es,fg G (cm K) i) (∀i m,br es i=some m->∀τ,m.testBit τ=true->d9 G nul aT (cm K) (cE K) τ i) (A2 (∀i∈wait,i∈ar es) (∀i b,br es i=some b->i∉wait->¬but i->∀j,G.Child i j->∃m,br es j=some m∧(∀τ,(G.hX nul aT i).1.testBit τ=true->m.testBit τ=true)∧((G.hX nul aT i).2=true->∀τ,b.testBit τ=true->m.testBit τ=true)))
noncomputable def jn (G:au) (es:a8) (wait:aw):Nat:=(50*2^12 - oY es)+wait.length
theorem nX.Od {K:a8} {but:Nat->Prop} (O:G.Ok) (x:nX G nul aT K es wait but):oY es<=50*2^12:=by
 have a:=jM G.N (ar es) x.1 λ i c=>by
  obtain ⟨m,e⟩:=hh.mp (ey.mpr c);exact (x.2 i m e).1
 rw [f3] at a;exact bB (abN (es:=es) (b:=2^12) λ p d=>(x.2 p.1 p.2 (ew x.1 d)).2) (Ia _ (bB a O.5))
theorem nX.put {K:a8} {mask v:Nat} (O:G.Ok) (x:nX G nul aT K es wait (· =i)) (s:j<G.N) (l:mask<2^12)
  (t:i∈ar es) (aI:G.Child i j) (hd:∀τ,mask.testBit τ=true->d9 G nul aT (cm K) (cE K) τ j)
  (d:(br es j=none∧v=mask)∨∃k,br es j=some k∧k|||mask≠k∧v=k|||mask):
  nX G nul aT K (d5 es j v) (wait++[j]) (· =i)∧jn G (d5 es j v) (wait++[j])<=jn G es wait∧v<2^12∧(∀τ,mask.testBit τ=true->v.testBit τ=true):=by
 have grow:∀k m,br es k=some m->∃b,br (d5 es j v) k=some b∧(∀τ,m.testBit τ=true->b.testBit τ=true)∧(k≠j->b=m):=λ k m e=>by
  rw [oX]
  by_cases h:k=j
  ·subst h;rw [if_pos rfl];refine ⟨v,rfl,λ τ b8=> ?_,λ h=>absurd rfl h⟩;rcases d with ⟨a,_⟩ | ⟨f,a,_,rfl⟩
   ·rw [e] at a;cases a
   ·rw [e] at a;cases a;rw [hA,b8,Jb]
  ·rw [if_neg h];exact ⟨m,e,λ _ h=>h,λ _=>rfl⟩
 have n:v<2^12:=by
  rcases d with ⟨_,rfl⟩ | ⟨f,a,_,rfl⟩
  ·exact l
  ·exact DF (x.2 _ _ a).2 l
 have u:∀τ,mask.testBit τ=true->v.testBit τ=true:=λ τ b8=>by
  rcases d with ⟨_,rfl⟩ | ⟨f,a,_,rfl⟩
  ·exact b8
  ·rw [hA,b8,Tu]
 have o:nX G nul aT K (d5 es j v) (wait++[j]) (· =i):=by
  refine ⟨BM x.1 _ _,λ k m e=> ?_,λ k m e=> ?_,λ k ao=> ?_,λ k m e τ b8=> ?_,λ k ao=> ?_,λ k mk e ao w c aI=> ?_⟩
  ·rw [oX] at e
   split at e
   ·rename_i h;cases e;subst h;exact ⟨s,n⟩
   ·exact x.2 k m e
  ·obtain ⟨b,p⟩:=x.3 k m e;obtain ⟨y,q⟩:=grow k b p.1;exact ⟨y,q.1,λ τ b8=>q.2.1 τ (p.2 τ b8)⟩
  ·rcases yt.mp ao with rfl | ao
   ·exact .step (x.4 i t) aI
   ·exact x.4 k ao
  ·rw [oX] at e
   split at e
   ·rename_i h;cases e;subst h;rcases d with ⟨_,rfl⟩ | ⟨f,a,_,rfl⟩
    ·exact hd τ b8
    ·rw [hA,wV] at b8;exact b8.elim (x.5 _ _ a τ) (hd τ)
   ·exact x.5 k m e τ b8
  ·rw [yt];rcases c6.mp ao with h | h
   ·exact .inr (x.6.1 k h)
   ·exact .inl (b3.mp h)
  ·rw [oX,if_neg (λ h=>ao (ix _ (b3.mpr h)):k≠j)] at e;obtain ⟨m,g⟩:=x.6.2 k mk e (λ h=>ao (f9 _ h):k∉wait) w c aI;obtain ⟨b,aD⟩:=grow c m g.1;exact ⟨b,aD.1,λ τ b8=>aD.2.1 τ (g.2.1 τ b8),λ z τ b8=>aD.2.1 τ (g.2.2 z τ b8)⟩
 refine ⟨o,?_,n,u⟩;have J:=abM x.1 j v;have r:=o.Od O;have B:=x.Od O;unfold jn;rw [cI,nd];rcases d with ⟨a,rfl⟩ | ⟨f,a,A,rfl⟩
 ·rw [a] at J;dsimp only at J;exact uK (.f (.a .p (.k 0)) (.s (.a .q .r))<| .l (.a .t .p) (.k 204800)<| .l (.k 204800) (.a .u .q)<| .g (.a .t (.s .z)) (.a .u .z)) rfl J (bE (ef (ct (.l .p (.k 204800)<| .g .p (.k 204800)) rfl r))) (sb _ _)
 ·rw [a] at J;dsimp only at J;exact qP (.f (.a .p .q) (.a (.a .r .t) (.k 0))<| .l (.s .q) .t<| .l (.a .u .p) (.k 204800)<| .l (.k 204800) (.a .z .r)<| .g (.a .u (.s (.v 6))) (.a .z (.v 6))) rfl J (Oa A) (bE (ef (ct (.l .p (.k 204800)<| .g .p (.k 204800)) rfl r))) (sb _ _)
theorem Gc (a:∀x∈aT,x<2^12):∀(l:aw) (m:Nat),m<2^12->(firstOf nul aT l m).1<2^12:=by
 intro l
 induction l with
 | nil=>
  exact λ m h=>h
 | cons x xs ih=>
  intro m h;have J:m|||aT.getD x 0<2^12:=by
   refine DF h ?_;rw [eS];cases e:aT[x]? with
   | none=>decide
   | some y=>exact a y (cY e)
  rw [NM]
  split
  ·exact ih _ J
  ·exact J
noncomputable abbrev qh (H:ag) (G:au) (eX eE:ak) (nul:cO) (aT:aw):Prop:=jC (H eX=some (.list (bools nul))) (H eE=some (.list (nats aT))) (nul.length=G.n) (aT.length=G.n) (∀x∈aT,x<2^12)
theorem qh.ext (x:qh H G eX eE nul aT) (k:Ext H aa):qh aa G eX eE nul aT:=⟨k _ _ x.1,k _ _ x.2,x.3,x.4,x.5⟩
theorem ajx (h:[]=nats l):l=[]:=by cases l with | nil=>rfl | cons a b=>simp [nats] at h
theorem ajy {x:ai} (h:x::xs=nats l):dB λ a b=>l=a::b∧x= .int (a:Nat)∧xs=nats b:=by
 cases l with
 | nil=>simp [nats] at h
 | cons a b=>simp only [nats,fe,Tv] at h;exact ⟨a,b,rfl,h.1,h.2⟩
theorem abR (l:aw) (k:Nat):(nats l).drop k=nats (l.drop k):=by simp [nats,List.map_drop]
section
variable {n:Nat} {B:ag} {L:Cells} {k:aJ} {st:aV} {A:du} {K:dK} {e:Bool}
theorem abS {syms:aw} (Z:Base W P) (O:G.Ok) (x:qh B G eX eE nul aT) (b:∀s∈syms,s<G.n) (q:T ⟨W,r+1,E,n⟩ B L (bb n k (.tup [.int (firstOf nul aT syms 0).1,.bool (firstOf nul aT syms 0).2]::st) A) K):T ⟨W,r+1,E,n⟩ B L (.call e .z6 3::k,.ref eE:: .ref eX:: .tup (nats syms)::st,A) K:=
 N5 Z (aL x.1) (aL x.2) (λ s h=>(by have a:=b s h;rw [x.3,x.4];exact ⟨a,a,bX (bx a O.2) (by decide)⟩)) q
end
theorem snoc_ind {α:Type} {p:Prop}:∀(l:List α),(l=[]->p)->(∀w i,l=w++[i]->p)->p:=λ l J a=>(aik l).elim J λ z=>z.elim λ w z=>z.elim λ i e=>a w i (by rw [e,ail])
theorem abT (h:¬G.j6 i<0):∃X,G.cC i=some X∧G.j6 i=(X:Nat):=by
 unfold au.j6 at h ⊢;cases a:G.cC i with
 | none=>rw [a] at h;exact absurd (by decide) h
 | some X=>exact ⟨X,rfl,rfl⟩
theorem abU {K es':a8} {a done:aw} {k mask:Nat} (O:G.Ok) (aK:nX G nul aT K es' a (· =i)∧jn G es' a<=jn G es wait∧(∀k∈done,∃m,br es' (G.off k)=some m∧∀τ,mask.testBit τ=true->m.testBit τ=true)∧(i∉a->br es' i=br es i∧i∉wait)∧i∈ar es')
  (o:i<G.N) (f:mask<2^12) (g:k<G.R) (c:G.Child i (G.off k)) (hd:∀τ,mask.testBit τ=true->∀j,G.Child i j->d9 G nul aT (cm K) (cE K) τ j) (v:Nat)
  (l:(br es' (G.off k)=none∧v=mask)∨∃b,br es' (G.off k)=some b∧b|||mask≠b∧v=b|||mask):
  nX G nul aT K (d5 es' (G.off k) v) (a++[G.off k]) (· =i)∧jn G (d5 es' (G.off k) v) (a++[G.off k])<=jn G es wait∧(∀k2∈done++[k],∃m,br (d5 es' (G.off k) v) (G.off k2)=some m∧∀τ,mask.testBit τ=true->m.testBit τ=true)∧(i∉a++[G.off k]->br (d5 es' (G.off k) v) i=br es i∧i∉wait)∧i∈ar (d5 es' (G.off k) v):=by
 have p:=aK.1.put O (au.tD g) f aK.2.2.2.2 c (λ τ b8=>hd τ b8 _ c) l;refine ⟨p.1,bB p.2.1 aK.2.1,λ k2 n=> ?_,λ d=> ?_,yt.mpr (.inr aK.2.2.2.2)⟩
 ·rw [oX]
  by_cases e:G.off k2=G.off k
  ·rw [if_pos e];exact ⟨v,rfl,p.2.2.2⟩
  ·rw [if_neg e];exact (c6.mp n).elim (aK.2.2.1 k2) λ h=>absurd (congrArg G.off (b3.mp h)) e
 ·rw [oX,if_neg λ h=>d (ix _ (b3.mpr h))];exact aK.2.2.2.1 λ h=>d (f9 _ h)
theorem abV (Z:Base W P) (O:G.Ok) (x:dS H g G) (rX:qh H G eX eE nul aT) {K:a8} (C:(ar K).Nodup) (qi:∀p∈K,p.1<G.N∧p.2<2^12)
  (q:∀c es aa,Ext H aa->H c=none->aa c=some (.dict .int (dJ es))->c1 G nul aT K es->Q (.ref c) aa):dw W (r+2) .DN [.ref g,cS K,.ref eX,.ref eE] H Q E:=by
 have S:K.length<=50:=by
  have:=jM G.N (ar K) C λ i o=>(bH.mp o).elim λ p M=>M.2▸(qi p M.1).1;rw [f3] at this;exact bB this O.5
 refine Zq Z (fN 14 rfl ?_);refine abk 4 (es:=dJ K) (by rw [cz];unfold lim;exact bF (a9 S (by decide))) (by simp [dJ]) (λ p M=>(bH.mp M).elim λ a U=>U.2▸⟨_,rfl⟩) (by rw [oZ];exact DG _ (λ a b o2 e=>o2 (fU (ai.int.inj e))) C) λ c=> ?_
 refine F3 5 (rc 4 rfl) (by rw [j7];unfold lim;exact bF (a9 S (by decide))) (oZ K) λ wl=> ?_
 refine rS [4,5] [0,2,3,4,5] (cQ:=λ _=>H) (cR:=λ s:a8×aw=>[(4,c,.dict .int (dJ s.1)),(5,wl,.list (nats s.2))]) (lf:=λ _=>[(0,.ref g),(2,.ref eX),(3,.ref eE),(4,.ref c),(5,.ref wl)])
  (λ n s=>nX G nul aT K s.1 s.2 (λ _=>False)∧jn G s.1 s.2=n∧n<=BN) _ (K,ar K) rfl rfl rfl ⟨⟨C,λ i m e=>qi _ (g4 e),λ i m e=>⟨m,ew C e,λ _ h=>h⟩,λ i o=> .base o,λ i m e τ b8=> .base (Im (f:=(·.1)) (g4 e)) ⟨m,g4 e,b8⟩,λ i o=>o,
   λ i y e hw=>absurd (ey.mp (by rw [e];rfl)) hw⟩,rfl,by unfold jn BN;rw [f3];exact bD (.l .p (.k 50)<| .l .q (.k 204800)<| .g (.a .q .p) (.k 300000)) rfl S (ur _ _)⟩ λ n s K' I b1 j8 _=> ?_
 have Og:s.2.length<=lim:=by have:=I.2;unfold jn at this;unfold lim;unfold BN at this;exact bF (a9 (bB (bB (uf _ _) (bE this.1)) this.2) (by decide))
 refine abf (rc 5 rfl) (by rw [eu];exact Og) (λ D=> ?_) λ he=>
  j8 (e9 λ aa f=>q c s.1 aa f.1 (f.2 4 _ _ rfl) (f.3 4 _ _ rfl) (Ob C I.1.1 I.1.2 I.1.3 I.1.4 I.1.5 λ i y e j l=>I.1.6.2 i y e (by rw [Jc.mp he];simp) id j l))
 refine snoc_ind s.2 (λ e=>absurd (congrArg nats e) D) λ u i hw=> ?_;have o:=I.1.6.1 i (by rw [hw];simp)
 refine uG (hh.mp (ey.mpr o)) λ y F=> ?_;have A:=(I.1.2 i y F).1;have N:=(au.jK A).1;refine fl (rc 5 rfl) rfl<|abn 5 rfl (by rw [hw];exact lg _ [i]) (by rw [eu];exact Og)<|jm x<|F9 Z O x A ?_
 have d:nX G nul aT K s.1 u (· =i):=⟨I.1.1,I.1.2,I.1.3,I.1.4,I.1.5,λ k ao=>I.1.6.1 k (hw▸f9 _ ao),λ k mk e ao aq=>I.1.6.2 k mk e (λ h=>(c6.mp (hw▸h)).elim ao λ h=>aq (b3.mp h)) id⟩;have B:jn G s.1 u<n:=by rw [<- I.2.1];unfold jn;rw [hw,cI,nd];exact wt (gj _) _
 have skip:(∀j,¬G.Child i j)->End ⟨W,r+1,E,14⟩ [4,5] [0,2,3,4,5] H [(4,c,.dict .int (dJ s.1)),(5,wl,.list (nats u))] [(0,.ref g),(2,.ref eX),(3,.ref eE),(4,.ref c),(5,.ref wl)] K':=λ iZ=>
  b1 _ (s.1,u) B ⟨⟨d.1,d.2,d.3,d.4,d.5,d.6.1,λ k mk e ao _ j l=>(Classical.em (k=i)).elim (λ h=>absurd (h▸l) (iZ j)) λ h=>d.6.2 k mk e ao h j l⟩,rfl,bB (bF B) I.2.2⟩
 refine fv (λ h=>yl (skip λ j z=>z.elim λ b _ z=>by unfold au.j6 at h;rw [z.1] at h;exact absurd (show (b:Int)<0 from h) (zx.mpr (m6 b))) rfl rfl) λ h=> ?_
 refine uG (abT h) λ X w=> ?_;rw [w.2];have w:=w.1;refine (x.abH N).elim λ fs e8 rs hz=>hz.elim λ a dE R=> ?_;refine jm x<|N2 Z x<|fv (λ h=>yl (skip λ j z=>z.elim λ b _ z=>wz (dA (w.symm.trans z.1)▸z.2.1) (hx.mp h)) rfl rfl) λ abW=> ?_;have qk:(G.right (G.own i)).length<=50:=by have:=au.oW (G:=G) N (dn _);exact bF (bx (a9 (uf _ _) this) O.5)
 refine bO (aL R.1) rfl R.2.1<|jm x<|BK Z O x A<|d4 (aL R.2.2.1) (bX (bx N O.3) (by decide)) R.2.2.2.1<|bO (aL R.2.2.2.2.1) rfl R.2.2.2.2.2.2.2<|jm x<|Ga Z O x A<|abl (i:=G.dot i+1) rfl (ct (.g .o (.s .p)) rfl) (by rw [eu];exact ((au.qe A w).1)) (by rw [eu];unfold lim;exact bF (a9 qk (by decide))) (abR _ _)<|abS Z O rX (λ s aC=>O.6.2 _ N s (IM aC)) ?_
 rw [show firstOf nul aT ((G.right (G.own i)).drop (G.dot i+1)) 0=G.hX nul aT i from rfl];have Oh:(G.hX nul aT i).1<2^12:=Gc rX.5 _ _ (by decide)
 have Oi:∀es' V,jn G es' V<=jn G s.1 u->V.length<lim:=λ es' V h=>by have:=I.2.2;unfold jn at h B;unfold lim;unfold BN at this;exact bX (bx (a9 (bB (uf _ _) h) B) this) (by decide)
 have go:∀mask:Nat,mask<2^12->(∀τ,mask.testBit τ=true↔((G.hX nul aT i).1.testBit τ=true∨((G.hX nul aT i).2=true∧y.testBit τ=true)))->
   T ⟨W,r+1,E,14⟩ H [(4,c,.dict .int (dJ s.1)),(5,wl,.list (nats u))] (bb 14 [.ae 0,.cG (.o .fq .uL),.ae 7,.cj false (.o .fq .uL) 1,.each (.one 11) Mo] [] [(0,.ref g),(2,.ref eX),(3,.ref eE),(4,.ref c),(5,.ref wl),(7,.int (X:Nat)),(9,.int (mask:Nat))]) K':=λ mask hm Y=>by
  refine jm x<|abG 6 Z O x (au.N0 O A w) λ di=> ?_;refine eL (c0:=λ n:Nat=> .int n) (ys:=G.nU X) [4,5,6] [0,2,3,4,5,9] (cQ:=λ _ _=>H) (cR:=λ _ (s:a8×aw)=>[(4,c,.dict .int (dJ s.1)),(5,wl,.list (nats s.2)),(6,di,.list (nats (G.nU X)))]) (lf:=λ _ _=>[(0,.ref g),(2,.ref eX),(3,.ref eE),(4,.ref c),(5,.ref wl),(9,.int (mask:Nat))])
   (λ done _ t=>nX G nul aT K t.1 t.2 (· =i)∧jn G t.1 t.2<=jn G s.1 u∧(∀k∈done,∃m,br t.1 (G.off k)=some m∧∀τ,mask.testBit τ=true->m.testBit τ=true)∧(i∉t.2->br t.1 i=br s.1 i∧i∉u)∧i∈ar t.1) (s.1,u)
   (li (rc 6 rfl) λ _ _=>rc 6 rfl) rfl rfl rfl ⟨d,dn _,(λ k ao=>by cases ao),λ h=>⟨rfl,h⟩,o⟩ (λ done k rest t ajz abX aK d0 _=>⟨_,rfl,?_⟩) λ t aK=> ?_
  ·have ao:k∈G.nU X:=by rw [abX];simp
   have BO:=(au.tE.mp ao).1;have nM:(dJ t.1).length<lim:=by
    rw [j7];have:=jM G.N (ar t.1) aK.1.1 λ a U=>(hh.mp (ey.mpr U)).elim λ m e=>(aK.1.2 a m e).1;rw [f3] at this;unfold lim;exact a9 (bB this O.5) (by decide)
   have put:=λ v aF=>d0 (d5 t.1 (G.off k) v,t.2++[G.off k]) (abU O aK A hm BO (⟨X,k,w,fD λ q=>abW (hx.mpr q),ao,rfl⟩:G.Child i (G.off k)) (λ τ b8 j l=>((Y τ).mp b8).elim (.gP (d.4 i o) l) λ h=> .prop (d.5 i y F τ h.2) l h.1:∀τ,mask.testBit τ=true->∀j,G.Child i j->d9 G nul aT (cm K) (cE K) τ j) v aF);refine jm x<|N4 Z O x BO<|rP (rc 4 rfl) rfl ?_;cases J:br t.1 (G.off k) with
   | none=>
    exact tB (v:= .int (-1)) (rc 4 rfl) ⟨_,rfl⟩ (by rw [h1,J];rfl)<|tA (by decide)<|oU 4 rfl ⟨_,rfl⟩ nM (qg ..)<|fl (rc 5 rfl) rfl<|g0 5 rfl (by rw [eu];exact Oi _ _ aK.2.1) (lg _ [_]).symm<|cK (put mask (.inl ⟨J,rfl⟩)) rfl rfl
   | some lQ=>
    refine tB (v:= .int (lQ:Nat)) (rc 4 rfl) ⟨_,rfl⟩ (by rw [h1,J];rfl)<|nQ (by simp)<|oT<|iM (λ D=>cK (d0 t ⟨aK.1,aK.2.1,λ k2 BP=>(c6.mp BP).elim (aK.2.2.1 k2) λ h=>⟨lQ,b3.mp h▸J,yu.mpr (fU D)⟩,aK.2.2.2⟩) rfl rfl) λ D=> ?_
    exact oT<|oU 4 rfl ⟨_,rfl⟩ nM (qg ..)<|fl (rc 5 rfl) rfl<|g0 5 rfl (by rw [eu];exact Oi _ _ aK.2.1) (lg _ [_]).symm<|cK (put _ (.inr ⟨lQ,J,λ e=>D (congrArg ml e),rfl⟩)) rfl rfl
  ·refine cK (b1 (jn G t.1 t.2) t (a9 aK.2.1 B) ⟨⟨aK.1.1,aK.1.2,aK.1.3,aK.1.4,aK.1.5,aK.1.6.1,λ k mk e ao _ j l=> ?_⟩,rfl,bB aK.2.1 (bB (bF B) I.2.2)⟩) rfl rfl
   by_cases Oj:k=i
   ·subst Oj;obtain ⟨b,abY,Ol,ajA,abZ,rfl⟩:=l;rw [(aK.2.2.2.1 ao).1,F] at e;cases e;rw [w] at Ol;cases Ol;obtain ⟨m,aD⟩:=aK.2.2.1 abY abZ;exact ⟨m,aD.1,λ τ b8=>aD.2 τ ((Y τ).mpr (.inl b8)),λ L τ b8=>aD.2 τ ((Y τ).mpr (.inr ⟨L,b8⟩))⟩
   ·exact aK.1.6.2 k mk e ao Oj j l
 refine nP (λ L=> ?_) λ L=> ?_
 ·refine hZ (rc 4 rfl) ⟨_,rfl⟩ (by rw [h1,F];rfl)<|oT<|j4 [4,5] [0,2,3,4,5,7,9] rfl rfl<|go _ (DF Oh (d.2 i y F).2) λ τ=>by rw [hA,wV];simp [show (G.hX nul aT i).2=true from L]
 ·exact j4 [4,5] [0,2,3,4,5,7,9] rfl rfl<|go (G.hX nul aT i).1 Oh λ τ=>by simp [show (G.hX nul aT i).2=false from L]
end
section
variable {W:a0} {P:eg} {r:Nat} {E:ag->Prop} {H:ag} {Q:KE} {g:ak} {G:au}
theorem ab0 {ok:ag->Prop} {f:ai->ag->KE->Prop} (p:∀x H K,(∀a,H a=none->K (.ref a) (H.upd a (.list [])))->f x H K):
  ∀(xs d:aV) (H:ag) (Q:KE),(∀aa,Ext H aa->ok aa)->
   (∀(as:gb) (c:ak) (aa:ag),as.length=xs.length->as.Nodup->(∀a∈as,H a=none∧aa a=some (.list []))->Ext H aa->H c=none->c∉as->aa c=some (.list (d++as.map .ref))->Q (.ref c) aa)->pH ok f xs d H Q:=by
 intro xs
 induction xs with
 | nil=>
  intro d H Q g q;refine ⟨g H (Ext.refl H),λ c aI=>q [] c _ rfl .nil (λ a h=>by cases h) (Ext.new aI) aI (by simp) ?_⟩
  rw [ag.fL];simp
 | cons x xs ih=>
  intro d H Q g q;refine ⟨g H (Ext.refl H),p _ _ _ λ a m=> ?_⟩;have i:=Ext.new (o:= .list []) m;refine ih (d++[.ref a]) (H.upd a (.list [])) Q (λ aa e=>g aa (i.trans e)) λ as c aa J r k n l s t=> ?_;refine q (a::as) c aa (by simp [J]) (kP.mpr ⟨λ h=> ?_,r⟩) (λ b j=> ?_) (i.trans n) (i.none l) (λ h=> ?_) (by rw [t];simp)
  ·have:=(k a h).1;rw [ag.fL] at this;cases this
  ·rcases dZ.mp j with rfl | j
   ·exact ⟨m,n _ _ (ag.fL ..)⟩
   ·exact ⟨i.none (k b j).1,(k b j).2⟩
  ·rcases dZ.mp h with rfl | h
   ·rw [ag.fL] at l;cases l
   ·exact s h
noncomputable abbrev l3 (H:ag) (as:gb) (us:List aw):Prop:=gR (us.length=as.length) (as.Nodup) (∀s a,as[s]? =some a->H a=some (.list (nats (us.getD s []))))
theorem l3.ne (x:l3 H as us) {a:ak} (h:a∉as):l3 (H.upd a o) as us:=
 ⟨x.1,x.2,λ s b e=>by rw [ag.er];exact x.3 s b e;rintro rfl;exact h (cY e)⟩
theorem l3.push (x:l3 H as us) {k:Nat} {a:ak} (e:as[s]? =some a):l3 (H.upd a (.list (nats (us.getD s []++[k])))) as (us.set s (us.getD s []++[k])):=by
 have d:s<us.length:=by rw [x.1];exact (cF.mp e).1
 refine ⟨by rw [je];exact x.1,x.2,λ s' b c=> ?_⟩
 by_cases h:s'=s
 ·subst h;rw [e] at c;cases c;have f:(us.set s' (us.getD s' []++[k])).getD s' []=us.getD s' []++[k]:=by rw [eS (l:=us.set s' _),hP d];rfl
  rw [ag.fL,f]
 ·have:b≠a:=by
   rintro rfl;obtain ⟨J,g⟩:=cF.mp e;obtain ⟨j,i⟩:=cF.mp c;exact h ((qF x.2).mp (i.trans g.symm))
  rw [ag.er _ _ this,x.3 s' b c,eS,eS,iS (λ h'=>h h'.symm)]
theorem l3.ext (x:l3 H as us) (k:Ext H aa):l3 aa as us:=⟨x.1,x.2,λ s a e=>k _ _ (x.3 s a e)⟩
structure hs where
 found:cO
 queue:aw
 g5:List Int
noncomputable def kD (us:List aw) (i:Nat) (right:aw):List aw:=right.foldl (λ us s=>us.set s (us.getD s []++[i])) us
noncomputable def au.lp (G:au) (us:List aw) (l:aw):List aw:=l.foldl (λ us i=>kD us i (G.right i)) us
noncomputable def au.mO (G:au):List aw:=G.lp (eQ G.n []) (cg G.R)
noncomputable def au.jN (G:au) (st:hs) (i:Nat):hs:=if st.g5.getD i 0=0/\ st.found.getD (G.left i) false=false then {st with found:=st.found.set (G.left i) true,queue:=st.queue++[G.left i]} else st
noncomputable def au.jo (G:au) (st:hs) (k:Nat):hs:=G.jN {st with g5:=st.g5.set k (st.g5.getD k 0 - 1)} k
noncomputable def au.rY (G:au) (us:List aw):Nat->hs->Nat->hs
 | 0,st,_=>st
 | f+1,st,at_=>if at_<st.queue.length then G.rY us f ((us.getD (st.queue.getD at_ 0) []).foldl G.jo st) (at_+1) else st
theorem au.ab1 {f:Nat}:G.rY us (f+1) st a=if a<st.queue.length then G.rY us f ((us.getD (st.queue.getD a 0) []).foldl G.jo st) (a+1) else st:=rfl
noncomputable def au.l4 (G:au):List Int:=(cg G.R).map λ i=>((G.right i).length:Int)
noncomputable def au.Om (G:au):hs:=(cg G.R).foldl G.jN ⟨eQ G.n false,[],G.l4⟩
noncomputable def au.bN (G:au):cO:=(G.rY G.mO (G.n+1) G.Om 0).found
noncomputable abbrev h4 (G:au) (st:hs):Prop:=iV (st.found.length=G.n) (st.g5.length=G.R) (st.queue.Nodup) (∀s∈st.queue,s<G.n∧st.found.getD s false=true)
theorem h4.On (x:h4 G st):st.queue.length<=G.n:=jM _ _ x.3 λ s a=>(x.4 s a).1
theorem ab2 {l:cO} (a:i<l.length):(l.set i true).getD j false=if j=i then true else l.getD j false:=by
 rw [eS,eS]
 by_cases h:j=i
 ·subst h;rw [if_pos rfl,hP a];rfl
 ·rw [if_neg h,iS (λ e=>h e.symm)]
theorem h4.jN (O:G.Ok) (x:h4 G st) (f:i<G.R):h4 G (G.jN st i):=by
 unfold au.jN
 split
 ·rename_i h;have c:=O.6.1 i f;have g:G.left i<st.found.length:=by rw [x.1];exact c
  have j:G.left i∉st.queue:=λ k=>by have:=(x.4 _ k).2;rw [h.2] at this;cases this
  refine ⟨by simp [x.1],x.2,?_,λ s d=> ?_⟩
  ·dsimp only;rw [gx];exact ⟨x.3,by simp,λ a l b e=>by rw [b3] at e;subst e;rintro rfl;exact j l⟩
  ·dsimp only at d ⊢;rw [ab2 g];rcases c6.mp d with h | h
   ·refine ⟨(x.4 s h).1,?_⟩
    split
    ·rfl
    ·exact (x.4 s h).2
   ·rw [b3] at h;subst h;exact ⟨c,if_pos rfl⟩
 ·exact x
theorem h4.jo (O:G.Ok) (x:h4 G st) (a:i<G.R):h4 G (G.jo st i):=
 h4.jN O (⟨x.1,by simp [x.2],x.3,x.4⟩:h4 G {st with g5:=st.g5.set i (st.g5.getD i 0 - 1)}) a
theorem ab3 (us:List aw) (l:aw) (n:Nat) (J:∀u∈us,∀k∈u,k<n) (c:∀k∈l,k<n):∀u∈G.lp us l,∀k∈u,k<n:=by
 have xP:∀(us:List aw) (s i:Nat),i<n->(∀u∈us,∀k∈u,k<n)->∀u∈us.set s (us.getD s []++[i]),∀k∈u,k<n:=λ us s i a h u d k ao=>by
  rcases wW d with h' | rfl
  ·exact h u h' k ao
  ·rcases c6.mp ao with h' | h'
   ·rw [eS] at h';cases e:us[s]? with
    | none=>rw [e] at h';cases h'
    | some v=>rw [e] at h';exact h v (cY e) k h'
   ·rw [b3] at h';subst h';exact a
 have f:∀(b:aw) (us:List aw) (i:Nat),i<n->(∀u∈us,∀k∈u,k<n)->∀u∈kD us i b,∀k∈u,k<n:=λ b=>by
  induction b with
  | nil=>exact λ us i _ h=>h
  | cons s b ih=>exact λ us i a h=>ih _ i a (xP us s i a h)
 induction l generalizing us with
 | nil=>exact J
 | cons i l ih=>exact ih _ (f _ _ i (c i (.head _)) J) λ k ao=>c k (.tail _ ao)
theorem ab4 (us:List aw) (l:aw):(G.lp us l).length=us.length:=by
 have b:∀(a:aw) (us:List aw) (i:Nat),(kD us i a).length=us.length:=λ a=>by
  induction a with
  | nil=>exact λ us i=>rfl
  | cons s a ih=>exact λ us i=>(ih _ i).trans (by simp)
 induction l generalizing us with
 | nil=>rfl
 | cons i l ih=>exact (ih _).trans (b _ _ _)
theorem ab5 (O:G.Ok):∀(l:aw) (st:hs),(∀k∈l,k<G.R)->h4 G st->h4 G (l.foldl G.jN st):=by
 intro l
 induction l with
 | nil=>
  exact λ _ _ x=>x
 | cons k l ih=>
  exact λ st h x=>ih _ (λ k ao=>h k (.tail _ ao)) (x.jN O (h k (.head _)))
theorem ab6 (O:G.Ok):∀(l:aw) (st:hs),(∀k∈l,k<G.R)->h4 G st->h4 G (l.foldl G.jo st):=by
 intro l
 induction l with
 | nil=>
  exact λ _ _ x=>x
 | cons k l ih=>
  exact λ st h x=>ih _ (λ k ao=>h k (.tail _ ao)) (x.jo O (h k (.head _)))
theorem ab7 (O:G.Ok) (h:∀u∈us,∀k∈u,k<G.R):∀(f:Nat) (st:hs) (a:Nat),h4 G st->h4 G (G.rY us f st a):=by
 intro f
 induction f with
 | zero=>
  exact λ st a x=>x
 | succ f ih=>
  intro st a x;rw [au.ab1]
  split
  ·refine ih _ _ ?_;have:∀k∈us.getD (st.queue.getD a 0) [],k<G.R:=λ k ao=>by
    rw [eS] at ao;cases e:us[st.queue.getD a 0]? with
    | none=>rw [e] at ao;cases ao
    | some v=>rw [e] at ao;exact h v (cY e) k ao
   exact ab6 O _ _ this x
  ·exact x
theorem ab8 (O:G.Ok):h4 G G.Om:=ab5 O _ _ (λ k ao=>fK.mp ao) ⟨by simp,by simp [au.l4],.nil,λ s h=>by cases h⟩
theorem Oo:(∀u∈G.mO,∀k∈u,k<G.R)∧G.mO.length=G.n:=
 ⟨ab3 _ _ _ (λ u a k ao=>by rw [List.mem_replicate] at a;rw [a.2] at ao;cases ao) λ k ao=>fK.mp ao,(ab4 _ _).trans (by simp)⟩
theorem Oq (O:G.Ok):G.bN.length=G.n:=(ab7 O Oo.1 _ _ _ (ab8 O)).1
end
section
variable {W:a0} {P:eg} {r:Nat} {E:ag->Prop} {H:ag} {Q:KE} {g:ak} {G:au}
noncomputable def nZ (l:List Int):aV:=l.map .int
theorem Gh {l:List Int} (h:i<l.length):(nZ l)[i]? =some (.int (l.getD i 0)):=by simp [nZ,h]
theorem Gi (l:List Int):(nZ l).length=l.length:=by simp [nZ]
theorem ab9 (l:List Int) (i:Nat) (v:Int):(nZ l).set i (.int v)=nZ (l.set i v):=by simp [nZ,wR]
theorem aca (us:List aw) (i:Nat) (l:aw) (s:Nat):kD us i (l++[s])=(kD us i l).set s ((kD us i l).getD s []++[i]):=by simp [kD]
theorem Os (i s:Nat):∀(l:aw) (us:List aw),((kD us i l).getD s []).length<=(us.getD s []).length+l.length:=by
 intro l
 induction l with
 | nil=>
  intro us;simp [kD]
 | cons a l ih=>
  intro us;have c:((us.set a (us.getD a []++[i])).getD s []).length<=(us.getD s []).length+1:=by
   rw [eS (l:=us.set a _)]
   by_cases h:s=a
   ·subst h
    by_cases b:s<us.length
    ·rw [hP b];simp
    ·rw [qD (by rw [je];exact fD b)];simp
   ·rw [iS (λ e=>h e.symm),<- eS];exact bF (gj _)
  show ((kD (us.set a (us.getD a []++[i])) i l).getD s []).length<=_;rw [f7];exact eZ (.l .p (.a .q .r)<| .l .q (.s .t)<| .g .p (.a .t (.s .r))) rfl (ih (us.set a (us.getD a []++[i]))) c
theorem acb (s:Nat):∀(l:aw) (us:List aw),(∀i∈l,(G.right i).length<=50)->((G.lp us l).getD s []).length<=(us.getD s []).length+l.length*50:=by
 intro l
 induction l with
 | nil=>
  intro us _;simp [au.lp]
 | cons a l ih=>
  intro us h;show ((G.lp (kD us a (G.right a)) l).getD s []).length<=_;rw [f7];exact hC (.l .p (.a .q (.w 50 .r))<| .l .q (.a .t .u)<| .l .u (.k 50)<| .g .p (.a .t (.w 50 (.s .r)))) rfl (ih (kD us a (G.right a)) λ i b=>h i (.tail _ b)) (Os a s (G.right a) us) (h a (.head _))
theorem BR (O:G.Ok) (h:i<G.R):(G.right i).length<=50:=by exact ci (.l (.s (.a .p .q)) .r<| .l .r (.k 50)<| .g .q (.k 50)) rfl (au.oW (G:=G) h (dn _)) O.5
noncomputable def au.j3 (G:au) (i:Nat):hs:=(cg i).foldl G.jN ⟨eQ G.n false,[],G.l4⟩
theorem acd (i:Nat):G.j3 (i+1)=G.jN (G.j3 i) i:=by unfold au.j3;rw [wX,ki];rfl
theorem Ot {C:gY} {L:Cells} {k:aJ} {st:aV} {K:dK} (m:Nat) (h:dD B L x (.list xs)) (t:xs.length<=lim)
  (q:∀d e3 c,Ext B e3->d.length=xs.length->(∀a∈d,B a=none)->l3 e3 d (eQ xs.length [])->T C e3 ((m,c,.list (d.map .ref))::L) (bb C.n k (.ref c::st) A) K):T C B L (.comp (.one 0) 1 [] [.list 0]::k,.ref x::st,A) K:=λ l H a f=>by
 refine pF.list (h H f) ⟨t,ab0 (λ x H K h=>⟨_,rfl,λ c aI=>⟨rfl,_,rfl,h c aI⟩⟩) _ _ _ _ (λ aa e=>e _ _ (h H f)) λ d c H1 a1 a2 bA cW p u v=> ?_⟩;have r:∀a∈d,B a=none:=λ a i=>f.1.none (bA a i).1;have w:∀m x o,lk m L=some (x,o)->x∉d:=λ m x o e h=>by have:=f.3 _ _ _ e;rw [(bA x h).1] at this;cases this
 have j:Fr (λ a=>if a∈d then some (.list []) else B a) L H1:=⟨λ a o e=>by
   by_cases i:a∈d
   ·cases (if_pos i).symm.trans e;exact (bA a i).2
   ·exact cW _ _ (f.1 _ _ ((if_neg i).symm.trans e)),λ m x o e=>(if_neg (w _ _ _ e)).trans (f.2 _ _ _ e),λ m x o e=>cW _ _ (f.3 _ _ _ e),f.4⟩
 refine (q d (λ a=>if a∈d then some (.list []) else B a) c (λ a o e=> ?_) a1 r ⟨by rw [mn,a1],a2,λ s b e=> ?_⟩).go a ?_
 ·exact (if_neg λ h=>by rw [r a h] at e;cases e).trans e
 ·refine (if_pos (cY e)).trans ?_;rw [eS,zN,if_pos (by rw [<- a1];exact (cF.mp e).1)];rfl
 ·have y:Fr (λ a=>if a∈d then some (.list []) else B a) ((m,c,.list (d.map .ref))::L) H1:=by
   have aI:∀n x o,lk n L=some (x,o)->x≠c:=λ n x o e q=>by have:=f.3 _ _ _ e;rw [q,p] at this;cases this
   refine ⟨j.1,λ n x o e=> ?_,λ n x o e=> ?_,λ n E x o bw e g=> ?_⟩
   ·rcases gZ e with ⟨_,e⟩ | ⟨_,e⟩
    ·cases e;exact (if_neg u).trans (f.1.none p)
    ·exact j.2 _ _ _ e
   ·rcases gZ e with ⟨_,e⟩ | ⟨_,e⟩
    ·cases e;simpa using v
    ·exact j.3 _ _ _ e
   ·rcases gZ e with ⟨z,e⟩ | ⟨_,e⟩<;>rcases gZ g with ⟨D,g⟩ | ⟨_,g⟩
    ·rw [z,D]
    ·cases e;exact absurd rfl (aI _ _ _ g)
    ·cases g;exact absurd rfl (aI _ _ _ e)
    ·exact f.4 _ _ _ _ _ e g
  exact y
theorem acf:(eQ n false).getD s false=false:=by rw [eS,zN];split<;>rfl
theorem acg {n s:Nat}:((eQ n ([]:aw)).getD s []).length=0:=by rw [eS,zN];split<;>rfl
theorem ach (i:Nat) (h:i<G.R):nZ (G.l4.take i)++[ai.int ((G.right i).length:Nat)]=nZ (G.l4.take (i+1)):=by
 rw [og,show G.l4[i]? =some ((G.right i).length:Int) by simp [au.l4,h]];simp [nZ]
theorem aci (i:Nat) (us:List aw):G.lp us (cg (i+1))=kD (G.lp us (cg i)) i (G.right i):=by
 rw [wX];simp [au.lp]
theorem acj (O:G.Ok) {d e:aw} (a:i<G.R) (h:G.right i=d++s::e):((kD (G.lp (eQ G.n []) (cg i)) i d).getD s []).length<lim:=by
 have b:=acb (G:=G) s (cg i) (eQ G.n []) λ j f=>BR O (bX (fK.mp f) a);have c:=BR O a;rw [h,cI] at c;rw [gy] at b;unfold lim;exact qP (.l (.s .p) .q (n:=50)<| .l .r (.a .t .u)<| .l .t (.a .z (.w 50 .p))<| .l (.a .u (.v 6)) (.k 50)<| .e .z (.k 0)<| .l .q (.k 20) (n:=50)<| .g (.s .r) (.k 16000000)) rfl a (Os (i:=i) (s:=s) d (G.lp (eQ G.n []) (cg i))) b c (acg (n:=G.n) (s:=s)) O.3
theorem ack:∀(l:aw) (st:hs),st.queue.length<=(l.foldl G.jo st).queue.length:=by
 intro l
 induction l with
 | nil=>
  exact λ _=>dn _
 | cons k l ih=>
  intro st;refine bB ?_ (ih (G.jo st k));unfold au.jo au.jN
  split
  ·dsimp only;rw [cI];exact fJ ..
  ·exact dn _
noncomputable abbrev mP (a b c d:ak) (e:gb) (s:hs):Cells:=[(2,a,.list (bools s.found)),(3,b,.list (nZ s.g5)),(5,c,.list (e.map .ref)),(6,d,.list (nats s.queue))]
theorem Ou {st:hs} (J:st.g5.getD i 0=0) (a:st.found.getD (G.left i) false=false):G.jN st i=⟨st.found.set (G.left i) true,st.queue++[G.left i],st.g5⟩:=if_pos ⟨J,a⟩
theorem Gj {st:hs} (h:¬(st.g5.getD i 0=0/\ st.found.getD (G.left i) false=false)):G.jN st i=st:=if_neg h
theorem Ov {st:hs} (h:st.found.getD (G.left i) false=true):G.jN st i=st:=Gj λ e=>by rw [h] at e;cases e.2
theorem acm:G.l4.take (cg G.R).length=G.l4:=wY (by simp [au.l4])
theorem acn:G.lp (eQ G.n []) (cg (cg G.R).length)=G.mO:=by rw [gy];rfl
theorem aco {s k:Nat} (h:k∈G.mO.getD s []):k<G.R:=by
 rw [eS] at h;cases e:G.mO[s]? with
 | none=>rw [e] at h;cases h
 | some v=>rw [e] at h;exact Oo.1 v (cY e) k h
theorem Ow (O:G.Ok) (b:i<G.R) (S:h4 G st):(bools st.found)[G.left i]? =some (.bool (st.found.getD (G.left i) false))∧G.left i<(bools st.found).length∧(bools st.found).length<=lim∧(nats st.queue).length<lim∧G.left i<2^60:=by
 have a:=O.6.1 i b;exact ⟨Bz (by rw [S.1];exact a),by rw [rL,S.1];exact a,by rw [rL,S.1];unfold lim;exact bF (a9 O.2 (by decide)),by rw [eu];unfold lim;exact a9 (bB S.On O.2) (by decide),bX (bx a O.2) (by decide)⟩
theorem acp (Z:Base W P) (O:G.Ok) (x:dS H g G) {k:ak} (ao:H k=some (.list (bools (eQ G.n false))))
  (q:∀c aa,Ext H aa->H c=none->aa c=some (.list (bools G.bN))->Q (.ref c) aa):dw W (r+2) .spread [.ref g,.ref k] H Q E:=by
 have gV:=O.3;have L:=O.2;have rZ:(bools (eQ G.n false)).length=G.n:=by rw [rL,mn]
 refine x.BL.elim λ fs e8 em R=> ?_;refine Zm Z (fN 12 rfl<|F2 2 (aL ao) (by rw [rZ];unfold lim;exact bF (a9 L (by decide))) λ m=>fw 3 rfl λ p=>Ot 5 (rc 2 rfl) (by rw [rZ];unfold lim;exact bF (a9 L (by decide))) λ w en u aY Ox acq ct=>fw 6 rfl λ v=> ?_)
 rw [rZ] at Ox ct;have Oy:∀s,s<G.n->∃b,w[s]? =some b:=λ s U=>⟨_,c4 (Ox.symm▸U)⟩;refine bO (aL (aY _ _ R.1)) rfl R.2.1<|eL (ys:=cg G.R) (c0:=em) [2,3,5,6] [0,2,3,5,6] (cQ:=λ _ s=>s) (cR:=λ d s=>mP m p u v w ⟨eQ G.n false,[],G.l4.take d.length⟩) (lf:=λ _ _=>[(0,.ref g),(2,.ref m),(3,.ref p),(5,.ref u),(6,.ref v)])
  (λ d _ B=>Ext H B∧l3 B w (G.lp (eQ G.n []) (cg d.length))) en (rR (aL (aY _ _ R.2.2.1)) λ _ _ B i=>aL (i.1 _ _ R.2.2.1)) rfl rfl rfl ⟨aY,ct⟩ (λ d i e B K' hd aK D _=> ?_) λ B aK=> ?_
 ·have y:=(hr hd).2.1;refine (R.2.2.2 i y).elim λ a dE r=>⟨_,F4 r.1,?_⟩;refine bO (aL (aK.1 _ _ r.2.1)) rfl r.2.2.2.2<|eL (ys:=G.right i) (c0:=λ n:Nat=> .int n) [2,3,5,6] [0,2,3,5,6,7,8] (cQ:=λ _ s=>s.1) (cR:=λ _ _=>mP m p u v w ⟨eQ G.n false,[],G.l4.take d.length⟩) (lf:=λ _ (s:ag×Nat)=>[(0,.ref g),(2,.ref m),(3,.ref p),(5,.ref u),(6,.ref v),(7,.ref a),(8,.int (s.2:Nat))])
   (λ dN _ s=>Ext H s.1∧l3 s.1 w (kD (G.lp (eQ G.n []) (cg i)) i dN)∧s.2=dN.length) (B,0) vH rfl rfl rfl ⟨aK.1,(hr hd).2.2▸aK.2,rfl⟩ (λ dN s a5 t cV hd2 A M _=>⟨_,rfl,?_⟩) λ t A=> ?_
  ·have U:s<G.n:=O.6.2 i y s (by rw [hd2];simp)
   refine (Oy s U).elim λ b C=> ?_;refine d4 (rc 2 rfl) (bX (bx U L) (by decide)) (by rw [Bz (by rw [mn];exact U),acf])<|nQ rfl<|d4 (rc 5 rfl) (bX (bx U L) (by decide)) (by rw [ff,C];rfl)<|fl (aL (A.2.1.3 s b C)) rfl<|bO (aL (A.1 _ _ r.2.1)) rfl r.2.2.1<|yn (A.2.1.3 s b C) (by rw [eu];exact acj O y hd2) (lg _ [_]).symm<|cK (M (_,t.2+1) ⟨A.1.upd (acq b (cY C)),?_,by rw [cI,A.2.2];rfl⟩) rfl rfl
   rw [aca];exact A.2.1.push C
  ·exact fl (rc 3 rfl) rfl<|g0 3 rfl (by rw [Gi,mj];unfold lim;exact eZ (.l .p (.k 20)<| .l (.s .q) .p<| .e .r .q<| .l .t .r<| .g (.s .t) (.k 16000000)) rfl gV y ((hr hd).2.2) (oa _ _)) (by rw [A.2.2,cI,(hr hd).2.2];exact ach i y)<|cK (D t.1 ⟨A.1,by rw [cI,(hr hd).2.2];exact aci i _▸A.2.1⟩) rfl rfl
 rw [acn] at aK;refine bO (aL (aK.1 _ _ R.1)) rfl R.2.1<|eL (ys:=cg G.R) (c0:=em) [2,3,5,6] [0,2,3,5,6] (cQ:=λ _ _=>B) (cR:=λ d _=>mP m p u v w (G.j3 d.length)) (lf:=λ _ _=>[(0,.ref g),(2,.ref m),(3,.ref p),(5,.ref u),(6,.ref v)])
  (λ d _ (_:Unit)=>h4 G (G.j3 d.length)) () (rR (aL (aK.1 _ _ R.2.2.1)) λ _ _ _ i=>aL (aK.1 _ _ R.2.2.1)) rfl (congrArg (λ l=>mP m p u v w ⟨eQ G.n false,[],l⟩) acm) rfl ⟨by simp [au.j3],by simp [au.l4,au.j3],.nil,λ s h=>by cases h⟩ (λ d i e _ K' hd S D _=> ?_) λ _ S=> ?_
 ·have y:d.length<G.R:=(hr hd).2.2.symm▸(hr hd).2.1;rw [show (d++[i]).length=d.length+1 from cI,acd] at D;refine (R.2.2.2 _ y).elim λ a dE r=>⟨_,F4 ((congrArg em (hr hd).2.2.symm).trans r.1),?_⟩;have V:=aK.1 _ _ r.2.1;have F:=Ow O y S;refine bO (aL V) rfl r.2.2.1<|d4 (rc 3 rfl) (bX (bx y gV) (by decide)) (Gh (by rw [S.2];exact y))<|fv (λ J=> ?_) λ J=>cK (D () (S.jN O y)) (congrArg (mP m p u v w) (Gj λ h=>J h.1).symm) rfl
  refine bO (aL V) rfl r.2.2.2.1<|d4 (rc 2 rfl) F.2.2.2.2 F.1<|nP (λ N=>cK (D () (S.jN O y)) (congrArg (mP m p u v w) (Ov N).symm) rfl) λ N=> ?_;exact bO (aL V) rfl r.2.2.2.1<|vF 2 rfl F.2.1 F.2.2.1 (BA ..)<|fl (rc 6 rfl) rfl<|bO (aL V) rfl r.2.2.2.1<|g0 6 rfl F.2.2.2.1 (lg _ [_]).symm<|cK (D () (S.jN O y)) (congrArg (mP m p u v w) (Ou J N).symm) rfl
 rw [show (cg G.R).length=G.R from gy ..] at S ⊢;refine rS [2,3,5,6] [0,2,3,5,6,9] (cQ:=λ _=>B) (cR:=λ s:hs×Nat=>mP m p u v w s.1) (lf:=λ s=>[(0,.ref g),(2,.ref m),(3,.ref p),(5,.ref u),(6,.ref v),(9,.int (s.2:Nat))])
  (λ n s=>h4 G s.1∧s.2<=s.1.queue.length∧n=G.n - s.2∧(G.rY G.mO (G.n+1 - s.2) s.1 s.2).found=G.bN) _ (G.j3 G.R,0) rfl rfl rfl ⟨S,dz _,rfl,rfl⟩ λ n s K' I D j8 _=> ?_
 have T:=I.1.On;refine iN (rc 6 rfl) (eu _) (by unfold lim;exact bF (a9 (bB T L) (by decide)))<|fv (λ bK=> ?_) λ bK=>j8 (e9 λ aa f=>q m aa (λ a o e=>f.1 _ _ (aK.1 a o e)) (aK.1.none (f.2 2 _ _ rfl)) ?_)
 rotate_left
 ·have:G.rY G.mO (G.n+1 - s.2) s.1 s.2=s.1:=by
   cases G.n+1 - s.2 with
   | zero=>rfl
   | succ f=>exact if_neg λ h=>bK (hx.mpr h)
  rw [<- I.2.2.2,this];exact f.3 2 _ _ rfl
 have bK:s.2<s.1.queue.length:=hx.mp bK;have Oz:=I.1.4 (s.1.queue.getD s.2 0) (by rw [eS,c4 bK];exact jd bK)
 refine (Oy _ Oz.1).elim λ b C=> ?_;have acr:(G.rY G.mO (G.n+1 - (s.2+1)) ((G.mO.getD (s.1.queue.getD s.2 0) []).foldl G.jo s.1) (s.2+1)).found=G.bN:=by
  rw [<- I.2.2.2,show G.n+1 - s.2=(G.n - s.2)+1 by exact dg (eZ (.l (.a .p .q) (.s .r)<| .l .r (.a .t .q)<| .g .p (.s .t)) rfl (bE (ef (ci (.l .p .q<| .l (.s .r) .p<| .g .r (.s .q)) rfl T bK))) (sb _ _)) (eZ (.l (.s .p) (.a .q .r)<| .l (.a .t .r) .p<| .g (.s .t) .q) rfl (sb _ _) (bE (ef (ci (.l .p .q<| .l (.s .r) .p<| .g .r .q) rfl T bK)))),show G.n+1 - (s.2+1)=G.n - s.2 by exact dg (eZ (.l (.a .p (.s .q)) (.s .r)<| .l .r (.a .t .q)<| .g .p .t) rfl (bE (ef (ci (.l .p .q<| .l (.s .r) .p<| .g (.s .r) (.s .q)) rfl T bK))) (sb _ _)) (eZ (.l (.s .p) (.a .q (.s .r))<| .l (.a .t .r) .p<| .g .t .q) rfl (sb _ _) (bE (ef (ci (.l .p .q<| .l (.s .r) .p<| .g .r .q) rfl T bK))))]
  exact congrArg hs.found (if_pos bK).symm
 refine d4 (rc 6 rfl) (bX (bx (bx bK T) L) (by decide)) (l0 bK)<|d4 (rc 5 rfl) (bX (bx Oz.1 L) (by decide)) (by rw [ff,C];rfl)<|eL (ys:=G.mO.getD (s.1.queue.getD s.2 0) []) (c0:=λ n:Nat=> .int n) [2,3,5,6] [0,2,3,5,6,9] (cQ:=λ _ _=>B) (cR:=λ d _=>mP m p u v w (d.foldl G.jo s.1)) (lf:=λ _ _=>[(0,.ref g),(2,.ref m),(3,.ref p),(5,.ref u),(6,.ref v),(9,.int (s.2:Nat))])
  (λ d _ (_:Unit)=>h4 G (d.foldl G.jo s.1)) () (rR (aL (aK.2.3 _ _ C)) λ _ _ _ i=>aL (aK.2.3 _ _ C)) rfl rfl rfl I.1 (λ d j e _ cV hd S M _=>⟨_,rfl,?_⟩) λ _ S=> ?_
 ·have K:j<G.R:=aco (s:=s.1.queue.getD s.2 0) (by rw [hd];simp)
  have X:j<(d.foldl G.jo s.1).g5.length:=by rw [S.2];exact K
  have Y:=S.jo O K;rw [show (d++[j]).foldl G.jo s.1=G.jo (d.foldl G.jo s.1) j by rw [ki];rfl] at M
  generalize d.foldl G.jo s.1=z at S X Y M ⊢;refine (R.2.2.2 _ K).elim λ a dE r=> ?_;have F:=Ow O K (⟨S.1,by simp [S.2],S.3,S.4⟩:h4 G {z with g5:=z.g5.set j (z.g5.getD j 0 - 1)})
  refine d4 (rc 3 rfl) (bX (bx K gV) (by decide)) (Gh X)<|vF 3 rfl (by rw [Gi];exact X) (by rw [Gi,S.2];unfold lim;exact bF (a9 gV (by decide))) (ab9 ..)<|bO (aL (aK.1 _ _ R.1)) rfl R.2.1<|d4 (aL (aK.1 _ _ R.2.2.1)) (bX (bx K gV) (by decide)) (by rw [ff,DC K,<- r.1];rfl)<|bO (aL (aK.1 _ _ r.2.1)) rfl r.2.2.2.1<|d4 (rc 3 rfl) (bX (bx K gV) (by decide)) (Gh (by rw [je];exact X))<|fv (λ J=> ?_) λ J=>cK (M () Y) (congrArg (mP m p u v w) (Gj (st:={z with g5:=z.g5.set j (z.g5.getD j 0 - 1)}) λ h=>J h.1).symm) rfl
  refine d4 (rc 2 rfl) F.2.2.2.2 F.1<|nP (λ N=>cK (M () Y) (congrArg (mP m p u v w) (Ov (st:={z with g5:=z.g5.set j (z.g5.getD j 0 - 1)}) N).symm) rfl) λ N=> ?_;exact vF 2 rfl F.2.1 F.2.2.1 (BA ..)<|fl (rc 6 rfl) rfl<|g0 6 rfl F.2.2.2.1 (lg _ [_]).symm<|cK (M () Y) (congrArg (mP m p u v w) (Ou (st:={z with g5:=z.g5.set j (z.g5.getD j 0 - 1)}) J N).symm) rfl
 ·exact cK (D (G.n - (s.2+1)) (_,s.2+1) (by rw [I.2.2.1];exact eZ (.l (.a .p (.s .q)) .r<| .l .r (.a .t .q)<| .g (.s .p) .t) rfl (bE (ef (ci (.l .p .q<| .l (.s .r) .p<| .g (.s .r) .q) rfl T bK))) (sb _ _)) ⟨S,by dsimp only;exact su (bx bK (ack (G.mO.getD (s.1.queue.getD s.2 0) []) s.1 (G:=G))),rfl,acr⟩) rfl rfl
theorem OA (Z:Base W P) (O:G.Ok) (x:dS H g G) (q:∀c aa,Ext H aa->H c=none->aa c=some (.list (bools G.bN))->Q (.ref c) aa):dw W (r+3) .DL [.ref g] H Q E:=by
 exact Zn Z (fN 1 rfl<|fw 1 rfl λ a=>jm x<|N6 Z O x<|NU (i:=G.n) 2 (rc 1 rfl) (bF (a9 O.2 (by decide))) λ b=>fm rfl rfl λ l H z f=>acp Z O (x.ext f.1) ((f.get 2 rfl).trans (by simp [bools])) λ c aa e n h=>T.go (e9 λ aa f=>q c aa f.1 (f.2 3 _ _ rfl) (f.get 3 rfl)) z (f.put e 3 n h))
end
section
variable {W:a0} {P:eg} {r:Nat} {E:ag->Prop} {H:ag} {Q:KE} {g:ak} {G:au}
noncomputable def au.kE (G:au):aw:=(cg G.n).map λ s=>if s<G.t then 2^s else 0
noncomputable def au.fh (G:au) (p:aw×Bool) (i:Nat):aw×Bool:=
 if p.1.getD (G.left i) 0|||(firstOf G.bN p.1 (G.right i) 0).1=p.1.getD (G.left i) 0 then p else (p.1.set (G.left i) (p.1.getD (G.left i) 0|||(firstOf G.bN p.1 (G.right i) 0).1),true)
noncomputable def au.pass (G:au) (aT:aw):aw×Bool:=(cg G.R).foldl G.fh (aT,false)
noncomputable def au.r0 (G:au):Nat->aw->aw
 | 0,aT=>aT
 | f+1,aT=>if (G.pass aT).2 then G.r0 f (G.pass aT).1 else (G.pass aT).1
theorem au.OB {f:Nat}:G.r0 (f+1) aT=if (G.pass aT).2 then G.r0 f (G.pass aT).1 else (G.pass aT).1:=rfl
noncomputable def au.bR (G:au):aw:=G.r0 49153 G.kE
noncomputable abbrev kF (G:au) (aT:aw):Prop:=A2 (aT.length=G.n) (∀x∈aT,x<2^12)
theorem acs {b:Nat} (h:∀x∈l,x<b):l.sum<=l.length*b:=by
 induction l with
 | nil=>simp
 | cons x l ih=>
  rw [wZ,f7,zX];exact eZ (.l (.s .p) .q<| .l .r .t<| .g (.a .p .r) (.a .t .q)) rfl (h x (.head _)) (ih λ y a=>h y (.tail _ a))
theorem kF.sum (O:G.Ok) (x:kF G aT):aT.sum<=49152:=by
 have h:=acs x.2;rw [x.1] at h;exact bB h (bB (Ia _ O.2) (by decide))
theorem sum_set {v:Nat} (h:i<l.length):(l.set i v).sum+l.getD i 0=l.sum+v:=by
 induction l generalizing i with
 | nil=>simp at h
 | cons x l ih=>
  cases i with
  | zero=>simp;exact dg (ci (.g (.a (.a .p .q) .r) (.a (.a .r .q) .p)) rfl) (ci (.g (.a (.a .p .q) .r) (.a (.a .r .q) .p)) rfl)
  | succ i=>
   have:=ih (i:=i) (by simpa using h)
   simp only [aim,wZ,DB];exact dg (hC (.e (.a .p .q) (.a .r .t)<| .g (.a (.a .u .p) .q) (.a (.a .u .r) .t)) rfl this) (hC (.f (.a .p .q) (.a .r .t)<| .g (.a (.a .u .r) .t) (.a (.a .u .p) .q)) rfl this)
theorem kF.get (x:kF G aT) (i:Nat):aT.getD i 0<2^12:=by
 rw [eS];cases e:aT[i]? with
 | none=>decide
 | some v=>exact x.2 v (cY e)
theorem kF.fh (O:G.Ok) {p:aw×Bool} (x:kF G p.1) (c:i<G.R):kF G (G.fh p i).1∧p.1.sum<=(G.fh p i).1.sum∧((G.fh p i).2=true->p.2=true∨p.1.sum<(G.fh p i).1.sum):=by
 unfold au.fh
 split
 ·exact ⟨x,dn _,.inl⟩
 ·rename_i d;have e:G.left i<p.1.length:=by rw [x.1];exact O.6.1 i c
  have a:=sum_set (v:=p.1.getD (G.left i) 0|||(firstOf G.bN p.1 (G.right i) 0).1) e;have b:=Oa d;refine ⟨⟨by rw [je];exact x.1,λ y f=> ?_⟩,by dsimp only;exact eZ (.f (.a .p .q) (.a .r .t)<| .l (.s .q) .t<| .g .r .p) rfl a b,λ _=> .inr (by dsimp only;exact eZ (.f (.a .p .q) (.a .r .t)<| .l (.s .q) .t<| .g (.s .r) .p) rfl a b)⟩
  rcases wW f with h | rfl
  ·exact x.2 y h
  ·exact DF (x.get _) (Gc x.2 _ _ (by decide))
noncomputable def au.i8 (G:au) (aT:aw) (i:Nat):aw×Bool:=(cg i).foldl G.fh (aT,false)
theorem Gk (aT:aw) (i:Nat):G.i8 aT (i+1)=G.fh (G.i8 aT i) i:=by unfold au.i8;rw [wX,ki];rfl
theorem OC (O:G.Ok):kF G G.kE:=by
 refine ⟨by simp [au.kE],λ x a=> ?_⟩
 obtain ⟨s,b,rfl⟩:=bH.mp a
 split
 ·exact Nat.pow_lt_pow_right (by decide) (by exact bD (.l (.s .p) .q<| .l .q (.k 12)<| .g (.s .p) (.k 12)) rfl (fK.mp b) O.2)
 ·decide
theorem Gl (O:G.Ok) (x:kF G aT):∀i,i<=G.R->kF G (G.i8 aT i).1∧aT.sum<=(G.i8 aT i).1.sum∧((G.i8 aT i).2=true->aT.sum<(G.i8 aT i).1.sum):=by
 intro i
 induction i with
 | zero=>
  exact λ _=>⟨x,dn _,λ h=>by cases h⟩
 | succ i ih=>
  intro h;have a:=ih (bF (uu h));have aD:=kF.fh O a.1 (show i<G.R by exact uu h);have f:=aD.2.2
  rw [Gk];refine ⟨aD.1,bB a.2.1 aD.2.1,λ c=> ?_⟩;rcases f c with b | b
  ·exact bx (a.2.2 b) aD.2.1
  ·exact a9 a.2.1 b
theorem acu (O:G.Ok):∀(f:Nat) (aT:aw),kF G aT->kF G (G.r0 f aT):=by
 intro f
 induction f with
 | zero=>
  exact λ _ x=>x
 | succ f ih=>
  intro aT x;have:=(Gl O x G.R (dn _)).1;rw [au.OB]
  split
  ·exact ih _ this
  ·exact this
theorem OD (O:G.Ok):kF G G.bR:=acu O _ _ (OC O)
theorem OE {p:aw×Bool} (h:p.1.getD (G.left i) 0|||(firstOf G.bN p.1 (G.right i) 0).1=p.1.getD (G.left i) 0):G.fh p i=p:=if_pos h
theorem OF {p:aw×Bool} (h:¬p.1.getD (G.left i) 0|||(firstOf G.bN p.1 (G.right i) 0).1=p.1.getD (G.left i) 0):G.fh p i=(p.1.set (G.left i) (p.1.getD (G.left i) 0|||(firstOf G.bN p.1 (G.right i) 0).1),true):=if_neg h
theorem acv {v:Nat} (h:i<G.n) (e:v=if i<G.t then 2^i else 0):nats (G.kE.take i)++[ai.int (v:Nat)]=nats (G.kE.take (i+1)):=by
 rw [og,show G.kE[i]? =some (if i<G.t then 2^i else 0) by simp [au.kE,h],lg,e];rfl
theorem acw (Z:Base W P) (O:G.Ok) (x:dS H g G) (q:∀c aa,Ext H aa->H c=none->aa c=some (.list (nats G.bR))->Q (.ref c) aa):dw W (r+4) .DM [.ref g] H Q E:=by
 have gV:=O.3;have b:=O.2;have M:=O.1;refine x.BL.elim λ fs N em R=> ?_;refine Zp Z (fN 7 rfl<|fm rfl rfl λ l H1 z f=>OA Z O (x.ext f.1) λ m S e n h=>T.go ?_ z (f.put e 1 n h));refine fw 2 rfl λ k=>jm x<|N6 Z O x<|l1 (a9 b (by decide))<|eL (c0:=λ n:Nat=> .int n) (ys:=cg G.n) [1,2] [0,1,2] (cQ:=λ _ _=>H) (cR:=λ d _=>[(1,m,.list (bools G.bN)),(2,k,.list (nats (G.kE.take d.length)))]) (lf:=λ _ _=>[(0,.ref g),(1,.ref m),(2,.ref k)])
  (λ _ _ (_:Unit)=>True) () (nS (a9 b (by decide))) rfl rfl rfl trivial (λ d i e _ K' hd _ u _=>⟨_,rfl,?_⟩) λ _ _=> ?_
 ·have j:=(hr hd).2.1;have p:(nats (G.kE.take d.length)).length<lim:=by rw [eu,mj,(hr hd).2.2];unfold lim;exact ci (.l .p (.k 12)<| .l (.s .q) .p<| .l .r .q<| .g (.s .r) (.k 16000000)) rfl b j (oa _ _)
  have D:∀v:Nat,v=(if i<G.t then 2^i else 0)->nats (G.kE.take d.length)++[ai.int (v:Nat)]=nats (G.kE.take (d++[i]).length):=λ v F=>by rw [cI,(hr hd).2.2];exact acv j F
  exact fl (rc 2 rfl) rfl<|jm x<|N2 Z x<|fv (λ h=>abg (bX (bx j b) (by decide))<|g0 2 rfl p (D _ (if_pos (hx.mp h)).symm)<|cK (u () trivial) rfl rfl) λ h=>g0 (v:= .int (0:Nat)) 2 rfl p (D 0 (if_neg λ h'=>h (hx.mpr h')).symm)<|cK (u () trivial) rfl rfl
 refine rS [1,2] [0,1,2,4] (cQ:=λ _=>H) (cR:=λ s=>[(1,m,.list (bools G.bN)),(2,k,.list (nats s.1))]) (lf:=λ s:aw×Bool×Nat=>[(0,.ref g),(1,.ref m),(2,.ref k),(4,.bool s.2.1)])
  (λ n s=>kF G s.1∧(s.2.1=true->G.r0 s.2.2 s.1=G.bR∧49152 - s.1.sum<s.2.2)∧(s.2.1=false->s.1=G.bR)∧n=2*(49152 - s.1.sum)+if s.2.1 then 1 else 0) _ (G.kE,true,49153) rfl (by rw [gy,wY (by simp [au.kE])];rfl) rfl ⟨OC O,λ _=>⟨rfl,by dsimp only;exact a9 (ur _ _) (by decide)⟩,λ h=>(by cases h),rfl⟩ λ n s K' I u L _=> ?_
 refine nP (λ w=> ?_) λ w=>L (e9 λ aa f=>q k aa f.1 (f.2 2 _ _ rfl) ((f.get 2 rfl).trans (by rw [I.2.2.1 w])))
 refine bO (aL R.1) rfl R.2.1<|eL (ys:=cg G.R) (c0:=em) [1,2] [0,1,2,4] (cQ:=λ _ _=>H) (cR:=λ d _=>[(1,m,.list (bools G.bN)),(2,k,.list (nats (G.i8 s.1 d.length).1))]) (lf:=λ d _=>[(0,.ref g),(1,.ref m),(2,.ref k),(4,.bool (G.i8 s.1 d.length).2)])
  (λ _ _ (_:Unit)=>True) () (rR (aL R.2.2.1) λ _ _ _ i=>aL R.2.2.1) rfl rfl rfl trivial (λ d i e _ U hd _ A _=> ?_) λ _ _=> ?_
 ·have j:d.length<G.R:=(hr hd).2.2.symm▸(hr hd).2.1;rw [show (d++[i]).length=d.length+1 from cI,Gk] at A;have K:=(Gl O I.1 d.length (bF j)).1;have p:=O.6.1 _ j;have B:G.left d.length<(G.i8 s.1 d.length).1.length:=K.1.symm▸p;refine (R.2.2.2 _ j).elim λ a V r=>⟨_,F4 ((congrArg em (hr hd).2.2.symm).trans r.1),?_⟩;refine bO (aL r.2.1) rfl r.2.2.2.1<|d4 (rc 2 rfl) (bX (bx p b) (by decide)) (l0 B)<|bO (aL r.2.1) rfl r.2.2.2.2<|N5 Z (rc 1 rfl) (rc 2 rfl) (λ s t=>by have:=O.6.2 _ j s t;rw [Oq O,K.1];exact ⟨this,⟨this,bX (bx this b) (by decide)⟩⟩)<|rN (i:=0) (by decide) rfl<|oT<|bO (aL r.2.1) rfl r.2.2.2.1<|d4 (rc 2 rfl) (bX (bx p b) (by decide)) (l0 B)<|iM (λ h=>cK (A () trivial) (by rw [OE (fU h)];rfl) (by rw [OE (fU h)];rfl)) λ h=> ?_
  exact bO (aL r.2.1) rfl r.2.2.2.1<|vF 2 rfl (by rw [eu];exact B) (by rw [eu,K.1];unfold lim;exact bF (a9 b (by decide))) (aa5 ..)<|cK (A () trivial) (by rw [OF λ h'=>h (congrArg ml h')];rfl) (by rw [OF λ h'=>h (congrArg ml h')];rfl)
 ·have o:=Gl O I.1 G.R (dn _);have t:=o.1.sum O;rw [(gy .. :(cg G.R).length=G.R)];have J:=I.2.1 w;have X:=J.2;have Y:=o.2.1;have C:=I.2.2.2;rw [if_pos w] at C;have e:s.2.2=(s.2.2 - 1)+1:=dg (bD (.l .p (.s .q)<| .g .p (.s .q)) rfl (sb _ _)) (bD (.l (.s .p) .q<| .g (.s .p) .q) rfl (bE (ef (bD (.l (.s .p) .q<| .g .o .q) rfl J.2))));have y:(if (G.i8 s.1 G.R).2 then G.r0 (s.2.2 - 1) (G.i8 s.1 G.R).1 else (G.i8 s.1 G.R).1)=G.bR:=by rw [<- J.1,e];rfl
  refine cK (u (2*(49152 - (G.i8 s.1 G.R).1.sum)+if (G.i8 s.1 G.R).2 then 1 else 0) ((G.i8 s.1 G.R).1,(G.i8 s.1 G.R).2,s.2.2 - 1) ?_ ⟨o.1,λ h=>⟨by rw [if_pos h] at y;exact y,?_⟩,λ h=>(by dsimp only at h;rw [h] at y;exact y),rfl⟩) rfl rfl
  ·cases h:(G.i8 s.1 G.R).2 with
   | true=>have:=o.2.2 h;rw [if_pos rfl];exact hC (.f .p (.s (.m 2 .q))<| .l (.s .r) .t (n:=2)<| .l (.a .u .t) (.k 49152) (n:=2)<| .l (.k 49152) (.a .q .r) (n:=2)<| .g (.s (.s (.m 2 .u))) .p) rfl C this (bE (ef (ct (.l .p (.k 49152)<| .g .p (.k 49152)) rfl t))) (sb _ _)
   | false=>rw [if_neg (by decide)];exact hC (.l .p .q (n:=2)<| .f .r (.s (.m 2 .t))<| .l (.a .u .q) (.k 49152) (n:=2)<| .l (.k 49152) (.a .t .p) (n:=2)<| .g (.s (.a (.m 2 .u) (.k 0))) .r) rfl o.2.1 C (bE (ef (ct (.l .p (.k 49152)<| .g .p (.k 49152)) rfl t))) (sb _ _)
  ·dsimp only;exact uK (.l (.s .p) .q<| .e .q (.s .r)<| .l (.s .t) .u<| .l (.a .z .u) (.k 49152)<| .l (.k 49152) (.a .p .t)<| .g (.s .z) .r) rfl J.2 e (o.2.2 h) (bE (ef (ct (.l .p (.k 49152)<| .g .p (.k 49152)) rfl t))) (sb _ _)
end
section
variable {W:a0} {P:eg} {r:Nat} {E:ag->Prop} {H:ag} {Q:KE} {g:ak} {G:au}
theorem ajD {ok:ag->Prop} {f:ai->ag->KE->Prop} (Inv:ag->Prop) (F:ai->ai) (d:∀H,Inv H->ok H):
  ∀(xs b:aV) (H:ag) (Q:KE),(∀x∈xs,∀H K,Inv H->(∀aa,Ext H aa->Inv aa->K (F x) aa)->f x H K)->Inv H->
   (∀c aa,Ext H aa->Inv aa->aa c=none->Q (.ref c) (aa.upd c (.list (b++xs.map F))))->pH ok f xs b H Q:=by
 intro xs
 induction xs with
 | nil=>
  exact λ b H Q _ i q=>⟨d H i,λ a h=>by simpa using q a H (Ext.refl H) i h⟩
 | cons x xs ih=>
  exact λ b H Q g i q=>⟨d H i,g x (.head _) H _ i λ aa e j=>ih _ aa Q (λ y k=>g y (.tail _ k)) j λ c l m n aI=>by
     simpa using (q c l (e.trans m) n aI)⟩
noncomputable def h5 (p:Nat×Nat):ai:= .tup [.int p.1,.int p.2]
theorem tF (K:a8):cS K= .tup (K.map h5):=rfl
noncomputable def tG (p q:Nat×Nat):Bool:=decide (p.1<=q.1)
noncomputable def au.gl (G:au) (es:a8) (X:Nat):a8:=(es.filter λ p=>decide (G.cC p.1=some X)).map λ p=>(p.1+1,p.2)
noncomputable def au.goto (G:au) (es:a8) (X:Nat):a8:=(G.gl es X).mergeSort tG
noncomputable def au.g6 (G:au) (es:a8):aw:=es.foldl (λ a p=>match G.cC p.1 with | some X=>if X∈a then a else a++[X] | none=>a) []
noncomputable def au.syms (G:au) (es:a8):aw:=(G.g6 es).mergeSort λ a b=>decide (a<=b)
theorem Gm (es:a8) (p:Nat×Nat):G.g6 (es++[p])=match G.cC p.1 with | some X=>if X∈G.g6 es then G.g6 es else G.g6 es++[X] | none=>G.g6 es:=by
 unfold au.g6;rw [ki];rfl
theorem lq {α:Type} {p:List α->Prop} (h0:p []) (J:∀l a,p l->p (l++[a])) (l:List α):p l:=by
 rw [<- ahJ l]
 induction l.reverse with
 | nil=>exact h0
 | cons a l ih=>rw [zp];exact J _ _ ih
theorem yw:∀(es:a8),(G.g6 es).Nodup∧∀X,X∈G.g6 es↔∃p∈es,G.cC p.1=some X:=by
 refine lq ⟨.nil,λ X=>by simp [au.g6]⟩ λ es p ih=> ?_
 ·rw [Gm];cases e:G.cC p.1 with
  | none=>
   refine ⟨ih.1,λ X=> ?_⟩;rw [ih.2];constructor
   ·rintro ⟨q,c,h⟩;exact ⟨q,f9 _ c,h⟩
   ·rintro ⟨q,c,h⟩;rcases c6.mp c with c | c
    ·exact ⟨q,c,h⟩
    ·rw [b3] at c;subst c;rw [e] at h;cases h
  | some Y=>
   dsimp only
   split
   ·rename_i d;refine ⟨ih.1,λ X=> ?_⟩;rw [ih.2];constructor
    ·rintro ⟨q,c,h⟩;exact ⟨q,f9 _ c,h⟩
    ·rintro ⟨q,c,h⟩;rcases c6.mp c with c | c
     ·exact ⟨q,c,h⟩
     ·rw [b3] at c;subst c;rw [e] at h;cases h;exact (ih.2 _).mp d
   ·rename_i d;refine ⟨?_,λ X=> ?_⟩
    ·rw [gx];exact ⟨ih.1,by simp,λ a g b f=>by rw [b3] at f;subst f;rintro rfl;exact d g⟩
    ·rw [c6,b3,ih.2];constructor
     ·rintro (⟨q,c,h⟩ | rfl)
      ·exact ⟨q,f9 _ c,h⟩
      ·exact ⟨p,by simp,e⟩
     ·rintro ⟨q,c,h⟩;rcases c6.mp c with c | c
      ·exact .inl ⟨q,c,h⟩
      ·rw [b3] at c;subst c;rw [e] at h;cases h;exact .inr rfl
theorem yx (es:a8):(G.syms es).Perm (G.g6 es):=Df _ _
theorem Gn (es:a8):(G.syms es).Nodup:=(yx es).nodup_iff.mpr (yw es).1
theorem yy {X:Nat}:X∈G.syms es↔∃p∈es,G.cC p.1=some X:=(yx es).mem_iff.trans ((yw es).2 X)
theorem acx (es:a8):(G.syms es).Pairwise (· <= ·):=by
 have:=IF (le:=λ a b:Nat=>decide (a<=b)) (λ a b c J d=>by simp at*;exact bB J d) (λ a b=>by simp;exact Jd a b) (G.g6 es)
 exact this.imp λ h=>by simpa using h
theorem Gp (es:a8) (X:Nat):(G.goto es X).Perm (G.gl es X):=Df _ _
theorem mQ {X:Nat} {p:Nat×Nat}:p∈G.goto es X↔∃i,p.1=i+1∧(i,p.2)∈es∧G.cC i=some X:=by
 rw [(Gp es X).mem_iff];unfold au.gl;rw [bH];constructor
 ·rintro ⟨q,a,rfl⟩;rw [kS] at a;exact ⟨q.1,rfl,a.1,by simpa using a.2⟩
 ·rintro ⟨i,J,b,c⟩;exact ⟨(i,p.2),by rw [kS];exact ⟨b,by simpa using c⟩,by rw [<- J]⟩
theorem OG (c:(ar es).Nodup) (X:Nat):(ar (G.gl es X)).Nodup:=by
 unfold au.gl ar at*;rw [e5];have:(es.filter λ p=>decide (G.cC p.1=some X)).map ((·.1)∘λ p:Nat×Nat=>(p.1+1,p.2))=((es.filter λ p=>decide (G.cC p.1=some X)).map (·.1)).map (· +1):=by rw [e5];rfl
 rw [this];exact DG _ (λ a b h e=>h (dg (bD (.e (.s .p) (.s .q)<| .g .p .q) rfl e) (bD (.f (.s .p) (.s .q)<| .g .q .p) rfl e))) (c.sublist (List.Sublist.map _ (List.filter_sublist ..)):((es.filter λ p=>decide (G.cC p.1=some X)).map (·.1)).Nodup)
theorem acy (a:(ar es).Nodup) (X:Nat):(ar (G.goto es X)).Nodup:=
 (List.Perm.nodup_iff ((Gp es X).map (λ p:Nat×Nat=>p.1))).mpr (OG a X)
theorem lr (d:(ar es).Nodup) (X:Nat):(ar (G.goto es X)).Pairwise (·< ·):=by
 have J:=IF (le:=tG) (λ a b c J e=>by simp [tG] at*;exact bB J e) (λ a b=>by simp [tG];exact Jd a.1 b.1) (G.gl es X)
 exact ((DG _ (λ a b h=>by simpa [tG] using h) J:(ar (G.goto es X)).Pairwise (· <= ·)).and (acy (G:=G) d X)).imp λ h=>sA h.1 h.2
theorem Gq (es:a8) (p:Nat×Nat) (X:Nat):G.gl (es++[p]) X=if G.cC p.1=some X then G.gl es X++[(p.1+1,p.2)] else G.gl es X:=by
 unfold au.gl;rw [pD,eR]
 by_cases h:G.cC p.1=some X
 ·rw [if_pos h];simp [h]
 ·rw [if_neg h];simp [h]
theorem OH (es:a8) (X:Nat):(G.gl es X).length<=es.length:=by
 unfold au.gl;rw [cz];exact qN _ _
theorem acz {X:Nat}:G.gl es X≠[]↔∃p∈es,G.cC p.1=some X:=by
 unfold au.gl;rw [Ne,Jc,Je];constructor
 ·intro h;simp only [decide_eq_true_eq] at h;exact eo λ b=>h λ p a e=>b ⟨p,a,e⟩
 ·rintro ⟨p,a,e⟩ h;exact h p a (by simpa using e)
theorem qm (l:aw):(nats l).mergeSort gB=nats (l.mergeSort λ a b=>decide (a<=b)):=by
 unfold nats;rw [ain (s:=gB)];intro a _ b _;simp [gB,JP]
theorem acA (l:a8):(l.map h5).mergeSort gB=(l.mergeSort tG).map h5:=by
 rw [ain (s:=gB)];intro a _ b _;simp [gB,T5,h5,tG]
theorem acB {l:a8} (c:(ar l).Nodup):qY (l.map h5):=by
 refine ⟨.inr λ x d=> ?_,?_⟩
 ·obtain ⟨p,_,rfl⟩:=bH.mp d;exact ⟨_,_,rfl⟩
 ·rw [e5];have:(cx∘h5)=λ p:Nat×Nat=>((p.1:Nat):Int):=rfl;rw [this];have e:l.map (λ p:Nat×Nat=>((p.1:Nat):Int))=(ar l).map λ (n:Nat)=>(n:Int):=by unfold ar;rw [e5];rfl
  rw [e];exact DG _ (λ a b h e=>h (fU e)) c
end
section
abbrev eC:=List (ai×ak×aV)
noncomputable def f5 (D:eC):List (ai×ai):=D.map λ p=>(p.1,.ref p.2.1)
noncomputable def g7 (D:eC):List (ai×aV):=D.map λ p=>(p.1,p.2.2)
noncomputable def lu (M:List (ai×aV)) (k v:ai):List (ai×aV):=if k∈M.map (·.1) then M.map λ p=>if p.1=k then (p.1,p.2++[v]) else p else M++[(k,[v])]
theorem vL (D:eC):(g7 D).map (·.1)=D.map (·.1):=by simp [g7]
theorem yz (d:(D.map (·.1)).Nodup) {k:ai}:(∀p∈D,p.1=k->cU (f5 D) k=some (.ref p.2.1))∧(k∉D.map (·.1)->cU (f5 D) k=none):=by
 induction D with
 | nil=>exact ⟨λ p h=>(by cases h),λ _=>rfl⟩
 | cons p D ih=>
  rw [fe,kP] at d;have aD:=ih d.2;have a:=aD.1;have b:=aD.2;unfold cU f5 at a b ⊢;rw [fe,C1]
  by_cases h:p.1=k
  ·simp only [h,decide_true];refine ⟨λ q c e=> ?_,λ ao=>absurd (IV ..) (by rw [fe,h] at ao;exact ao)⟩
   rcases dZ.mp c with rfl | c
   ·rfl
   ·exact absurd (bH.mpr ⟨q,c,e.trans h.symm⟩) d.1
  ·simp only [h,decide_false];refine ⟨λ q c e=> ?_,λ ao=>b λ h'=>ao (by rw [fe];exact ahA _ h')⟩
   rcases dZ.mp c with rfl | c
   ·exact absurd e h
   ·exact a q c e
noncomputable abbrev kG (B:ag) (D:eC):Prop:=gR (∀p∈D,B p.2.1=some (.list p.2.2)) ((D.map (·.1)).Nodup) ((D.map (·.2.1)).Nodup)
theorem kG.ext (d:kG B D) (e:∀p∈D,∀o,B p.2.1=some o->e3 p.2.1=some o):kG e3 D:=⟨λ p h=>e p h _ (d.1 p h),d.2,d.3⟩
noncomputable def jO (D:eC) (b:ak) (v:ai):eC:=D.map λ p=>if p.2.1=b then (p.1,p.2.1,p.2.2++[v]) else p
theorem BS (D:eC) (b:ak) (v:ai):f5 (jO D b v)=f5 D:=by
 unfold f5 jO;rw [e5];refine kf λ p _=> ?_;show (_,_)=_;by_cases h:p.2.1=b<;>simp [h]
theorem BU (D:eC) (b:ak) (v:ai):(jO D b v).map (·.2.1)=D.map (·.2.1):=by
 unfold jO;rw [e5];refine kf λ p _=> ?_;show (ite _ _ _:ai×ak×aV).2.1=_;by_cases h:p.2.1=b<;>simp [h]
theorem OI (h:(D.map (·.2.1)).Nodup) {p q:ai×ak×aV} (a:p∈D) (b:q∈D) (e:p.2.1=q.2.1):p=q:=by
 obtain ⟨i,c,rfl⟩:=mi a;obtain ⟨j,d,rfl⟩:=mi b;have:i=j:=(qF (h₀:=by rw [cz];exact c) (h₁:=by rw [cz];exact d) h).mp (by rw [sD,sD,e])
 subst this;rfl
theorem kG.app {k v:ai} {b:ak} (d:kG B D) (h:(k,b,vs)∈D):kG (B.upd b (.list (vs++[v]))) (jO D b v):=by
 refine ⟨λ p a=> ?_,?_,by (rewrite [BU];try (with_reducible rfl));exact d.3⟩
 ·obtain ⟨z,hz,rfl⟩:=bH.mp a
  by_cases e:z.2.1=b
  ·(rewrite [if_pos e];try (with_reducible rfl))
   have:=OI d.3 hz h e;subst this;exact ag.fL ..
  ·(rewrite [if_neg e,ag.er _ _ e];try (with_reducible rfl));exact d.1 z hz
 ·have:(jO D b v).map (·.1)=D.map (·.1):=by
   have:=congrArg (Tq (·.1)) (BS D b v);unfold f5 at this;rewrite [e5,e5] at this;exact this
  (rewrite [this];try (with_reducible rfl));exact d.2
theorem acC (ao:(D.map (·.1)).Nodup) (d:(D.map (·.2.1)).Nodup) {k v:ai} {b:ak} (h:(k,b,vs)∈D):g7 (jO D b v)=lu (g7 D) k v:=by
 unfold lu;rw [vL,if_pos (bH.mpr ⟨_,h,rfl⟩)];unfold g7 jO;rw [e5,e5];refine kf λ p a=> ?_;show ((ite _ _ _:ai×ak×aV).1,(ite _ _ _:ai×ak×aV).2.2)=_
 by_cases e:p.2.1=b
 ·have:=OI d a h e;subst this;simp
 ·have:p.1≠k:=λ f=>e (by
   obtain ⟨i,g,rfl⟩:=mi a;obtain ⟨j,l,c⟩:=mi h;have:i=j:=(qF (h₀:=by rw [cz];exact g) (h₁:=by rw [cz];exact l) ao).mp (by rw [sD,sD,f,c])
   subst this;rw [c])
  simp [e,this]
theorem acD {k v:ai} {b:ak} (ao:k∉D.map (·.1)) (a:b∉D.map (·.2.1)):g7 (jO (D++[(k,b,[])]) b v)=lu (g7 D) k v:=by
 unfold lu;rw [vL,if_neg ao];unfold g7 jO;rw [eR,eR,e5];have c:D.map ((λ p:ai×ak×aV=>(p.1,p.2.2))∘λ p=>if p.2.1=b then (p.1,p.2.1,p.2.2++[v]) else p)=D.map λ p=>(p.1,p.2.2):=kf λ p d=>by
  have:p.2.1≠b:=λ e=>a (e▸bH.mpr ⟨p,d,rfl⟩);simp [this]
 rw [c];simp
section
variable {C:gY} {B:ag} {L:Cells} {k:aJ} {st:aV} {A:du} {K:dK} {f:ak} {sh:Shape} {D:eC} {cx:ai} {H:ag} {e:Bool}
theorem Fr.dup (x:Fr B L H) {v:ak×c5} (h:lk m L=some v):Fr B ((m,v)::L) H:=by
 have e:∀{n w},lk n ((m,v)::L)=some w->lk n L=some w:=λ {n w} q=>by
  rcases gZ q with ⟨a,b⟩ | ⟨_,q⟩
  ·rw [a,h,b]
  ·exact q
 exact ⟨x.1,λ n y o q=>x.2 n y o (e q),λ n y o q=>x.3 n y o (e q),λ n c y o bw q d=>x.4 n c y o bw (e q) (e d)⟩
theorem Fr.grow (x:Fr B L H) {a:ak} (h:H a=none):Fr (B.upd a o) L (H.upd a o):=by
 have d:∀m y bw,lk m L=some (y,bw)->y≠a:=λ m y bw e q=>(by have:=x.3 m y bw e;rw [q,h] at this;cases this)
 refine ⟨λ b bT e=> ?_,λ m y c e=>(ag.er _ _ (d _ _ _ e)).trans (x.2 m y c e),λ m y c e=>(ag.er _ _ (d _ _ _ e)).trans (x.3 m y c e),x.4⟩
 by_cases f:b=a
 ·subst f;rw [ag.fL] at e ⊢;exact e
 ·rw [ag.er _ _ f] at e ⊢;exact x.1 _ _ e
theorem Gr (m:Nat) (n:lk m L=some (f,.dict sh (f5 D))) (d:kG B D) (ao:sh.has cx) (y:D.length<lim)
  (q:∀b r j vs,Ext B r->kG r j->(cx,b,vs)∈j->(∀p∈j,p∈D∨(B p.2.1=none∧p.2.2=[]))->(∀v,g7 (jO j b v)=lu (g7 D) cx v)->T C r ((m,f,.dict sh (f5 j))::L) (bb C.n k (.ref b::st) A) K):
  T C B L (.list 0:: .cj e (.b .k6) 2::k,cx:: .ref f::st,A) K:=λ l H z fr c aI=>by
 have t:=fr.more (Ext.new (o:= .list []) aI);have u:=t.3 _ _ _ n;have w:(f5 D).length<lim:=by unfold f5;rw [cz];exact y
 refine ⟨_,rfl,?_⟩
 by_cases h:cx∈D.map (·.1)
 ·obtain ⟨p,g,rfl⟩:=bH.mp h;exact ng.J5 u ao w ((yz d.2).1 p g rfl) ((q p.2.1 B D p.2.2 (Ext.refl B) d g (λ _ h=> .inl h) λ v=>acC d.2 d.3 g).go z (t.dup n))
 ·have i:B c=none:=fr.1.none aI;have x:c∉D.map (·.2.1):=λ h'=>by
   obtain ⟨p,g,e⟩:=bH.mp h';have:=d.1 p g;rw [e,i] at this;cases this
  refine ng.J6 u ao w ((yz d.2).2 h) ((q c (B.upd c (.list [])) (D++[(cx,c,[])]) [] (Ext.new i) ⟨λ p g=> ?_,?_,?_⟩ (by simp) (λ p g=> ?_) λ v=>acD h x).go z ?_)
  ·rcases c6.mp g with g | g
   ·exact Ext.new i _ _ (d.1 p g)
   ·rw [b3] at g;subst g;exact ag.fL ..
  ·rw [eR,gx];exact ⟨d.2,by simp,λ a s b i=>by simp at i;subst i;rintro rfl;exact h s⟩
  ·rw [eR,gx];exact ⟨d.3,by simp,λ a s b i=>by simp at i;subst i;rintro rfl;exact x s⟩
  ·rcases c6.mp g with g | g
   ·exact .inl g
   ·rw [b3] at g;subst g;exact .inr ⟨i,rfl⟩
  ·rw [(by simp [f5]:f5 (D++[(cx,c,[])])=f5 D++[(cx,.ref c)])];exact (fr.grow aI).set n
end
end
section
variable {W:a0} {P:eg} {r:Nat} {E:ag->Prop} {H:ag} {Q:KE} {g:ak} {G:au}
theorem acE (O:G.Ok) (b:(ar es).Nodup) (c:∀i m,br es i=some m->i<G.N∧m<2^12):es.length<=50:=by
 have:=jM G.N (ar es) b λ a d=>by
  obtain ⟨m,e⟩:=hh.mp (ey.mpr d);exact (c a m e).1
 rw [f3] at this;exact bB this O.5
theorem OJ (O:G.Ok) (a:∀p∈es,p.1<G.N):(G.g6 es).length<=12:=by
 have:=jM G.n (G.g6 es) (yw es).1 λ X b=>by
  obtain ⟨p,aD⟩:=((yw es).2 X).mp b;exact au.N0 O (a p aD.1) aD.2
 exact bB this O.2
noncomputable def au.hK (G:au) (es:a8):List (ai×aV):=(G.g6 es).map λ X=>(.int (X:Nat),(G.gl es X).map h5)
theorem Gs (es:a8):(G.hK es).map (·.1)=nats (G.g6 es):=by unfold au.hK;rw [e5];rfl
theorem acF {p:Nat×Nat} (h:G.cC p.1=none):G.hK (es++[p])=G.hK es:=by
 unfold au.hK;rw [Gm,h];refine kf λ X _=> ?_;rw [Gq,if_neg (by rw [h];simp)]
theorem BV {k:Nat}:ai.int (k:Nat)∈nats l↔k∈l:=by
 unfold nats;rw [bH];exact ⟨λ z=>z.elim λ a z=>(by injection z.2 with e;rw [<- fU e];exact z.1),λ h=>⟨k,h,rfl⟩⟩
theorem acG {p:Nat×Nat} {X:Nat} (h:G.cC p.1=some X):G.hK (es++[p])=lu (G.hK es) (.int (X:Nat)) (h5 (p.1+1,p.2)):=by
 unfold lu;rw [Gs];have c:∀Y,Y≠X->G.gl (es++[p]) Y=G.gl es Y:=λ Y a=>by rw [Gq,if_neg (by rw [h];exact λ e=>a (dA e).symm)]
 have d:G.gl (es++[p]) X=G.gl es X++[(p.1+1,p.2)]:=by rw [Gq,if_pos h]
 have f:G.g6 (es++[p])=if X∈G.g6 es then G.g6 es else G.g6 es++[X]:=by rw [Gm,h]
 by_cases b:X∈G.g6 es
 ·rw [if_pos (BV.mpr b)];unfold au.hK;rw [f,if_pos b,e5];refine kf λ Y _=> ?_
  by_cases a:Y=X
  ·subst a;simp [d]
  ·have:¬(ai.int (Y:Nat)=ai.int (X:Nat)):=λ e=>a (fU (ai.int.inj e));simp [c Y a,this]
 ·rw [if_neg (λ h=>b (BV.mp h))];unfold au.hK;rw [f,if_neg b,eR];rw [(kf λ Y a=>by rw [c Y (λ e=>b (e▸a))]:(G.g6 es).map (λ X=>(ai.int (X:Nat),(G.gl (es++[p]) X).map h5))=(G.g6 es).map λ X=>(ai.int (X:Nat),(G.gl es X).map h5))];simp [d,(eo λ h=>b (((yw es).2 X).mpr (acz.mp h)):G.gl es X=[])]
theorem OK (c:(D.map (·.1)).Nodup) {k:ai} {vs:aV} (h:(k,vs)∈g7 D):∃b,cU (f5 D) k=some (.ref b)∧(k,b,vs)∈D:=by
 obtain ⟨p,a,e⟩:=bH.mp h;cases e;exact ⟨p.2.1,(yz c).1 p a rfl,a⟩
theorem OL (Z:Base W P) (O:G.Ok) (x:dS H g G) (B:H it=some (.dict .int (dJ es))) (v:(ar es).Nodup) (I:∀i m,br es i=some m->i<G.N∧m<2^12)
  (q:∀c aa,Ext H aa->H c=none->aa c=some (.list ((G.syms es).map λ (X:Nat)=> .tup [.int X,cS (G.goto es X)]))->Q (.ref c) aa):dw W (r+2) .DO [.ref g,.ref it] H Q E:=by
 have C:=acE O v I;have J:∀p∈es,p.1<G.N:=λ p l=>(I p.1 p.2 (ew v l)).1;have D:∀d e,es=d++e->(G.g6 d).length<=12:=λ d e h=>OJ O λ p l=>J p (h▸f9 _ l);refine Zr Z (fN 6 rfl<|lh 2 .int λ f=>eL (ys:=es) (c0:=λ p:Nat×Nat=> .int (p.1:Nat)) [2] [0,1,2] (cQ:=λ _ (s:ag×eC)=>s.1) (cR:=λ _ (s:ag×eC)=>[(2,f,.dict .int (f5 s.2))]) (lf:=λ _ _=>[(0,.ref g),(1,.ref it),(2,.ref f)])
  (λ d _ s=>Ext H s.1∧kG s.1 s.2∧g7 s.2=G.hK d∧∀p∈s.2,H p.2.1=none) (H,[]) (NW (aL B) (by unfold dJ;rw [e5];rfl) λ _ _ _ i=>aL (i.1 _ _ B)) rfl rfl rfl ⟨Ext.refl H,⟨λ _ h=>hQ h,.nil,.nil⟩,rfl,λ _ h=>hQ h⟩ (λ d p e s K' hd aK w _=>⟨_,rfl,?_⟩) λ s aK=> ?_)
 ·have K:p∈es:=by rw [hd];simp
  have u:=J p K;have j:=x.ext aK.1;refine jm j<|F9 Z O j u<| ?_;cases t:G.cC p.1 with
  | none=>
   have F:G.j6 p.1= -1:=by unfold au.j6;rw [t]
   rw [F];exact nQ rfl<|cK (w s ⟨aK.1,aK.2.1,by rw [acF t];exact aK.2.2⟩) rfl rfl
  | some X=>
   have F:G.j6 p.1=(X:Nat):=by unfold au.j6;rw [t]
   have T:G.off (G.own p.1)+(G.dot p.1+1)=p.1+1:=by have:=(au.yq u).2;exact dg (ci (.f .p (.a .q .r)<| .g (.a .q (.s .r)) (.s .p)) rfl this) (ci (.e .p (.a .q .r)<| .g (.s .p) (.a .q (.s .r))) rfl this)
   have U:s.2.length<=12:=by
    have:=D d _ hd;rw [<- eu,<- Gs,<- aK.2.2.1,vL,cz] at this;exact this
   rw [F];refine tA (by simp)<|jm j<|jm j<|BK Z O j u<|jm j<|Ga Z O j u<|N3 (d:=G.dot p.1+1) Z O j (au.jK u).1 ?_
   rw [T];refine rP (rc 2 rfl) rfl<|Gr 2 rfl aK.2.1 ⟨_,rfl⟩ (by unfold lim;exact a9 U (by decide)) λ b ik y vs cM L A M V=> ?_
   have N:=L.1 _ A;have R:∀p∈y,H p.2.1=none:=λ p l=>(M p l).elim (aK.2.2.2 p) λ h=>aK.1.none h.1;have x4:vs.length<lim:=by
    rcases M _ A with h | h
    ·obtain ⟨Y,eG,e⟩:=bH.mp (aK.2.2.1▸bH.mpr ⟨_,h,rfl⟩:(ai.int (X:Nat),vs)∈G.hK d);cases e;rw [cz];exact a9 (bB (OH (G:=G) d X) (bB (by rw [hd];simp:d.length<=es.length) C)) (by decide)
    ·show vs.length<lim;rw [show vs=[] from h.2];decide
   refine fl (aL N) rfl<|hZ (aL (cM _ _ (aK.1 _ _ B))) ⟨_,rfl⟩ (by rw [h1,ew v K];rfl)<|yn N x4 rfl<|cK (w (_,jO y b (h5 (p.1+1,p.2))) ⟨Ext.upd (λ a o e=>cM _ _ (aK.1 _ _ e)) (R _ A),L.app A,by rw [acG t,<- aK.2.2.1];exact V _,λ p l=> ?_⟩) (by rw [BS];rfl) rfl
   obtain ⟨z,hz,e⟩:=bH.mp (BU y b _▸bH.mpr ⟨p,l,rfl⟩:p.2.1∈y.map (·.2.1));exact e▸R z hz
 ·have ao:(f5 s.2).map (·.1)=nats (G.g6 es):=by rw [<- Gs,<- aK.2.2.1,vL];simp [f5]
  have rZ:(f5 s.2).length<=12:=by
   have:=congrArg gz ao;rw [cz,eu] at this;rw [this];exact D es [] (h9 _).symm
  refine qb 3 (rc 2 rfl) (bF (a9 rZ (by decide))) (by rw [ao];exact qm _) λ dI=>nT (c0:=λ n:Nat=> .int n) 4 (G.syms es) (λ X=> .tup [.int (X:Nat),cS (G.goto es X)]) (ym (rc 3 rfl) λ aa f=>f.get 3 rfl) ?_ (λ X t K' w=>⟨_,rfl,?_⟩) λ c=>e9 λ aa f=>q c aa (λ a o e=>f.1 _ _ (aK.1 _ _ e)) (aK.1.none (f.2 4 _ _ rfl)) (f.get 4 rfl)
  ·rw [(yx (G:=G) es).length_eq];exact bB (D es [] (h9 _).symm) (by decide)
  ·obtain ⟨b,aD⟩:=OK aK.2.1.2 (k:= .int (X:Nat)) (vs:=(G.gl es X).map h5) (by rw [aK.2.2.1];exact bH.mpr ⟨X,((yx (G:=G) es).mem_iff.mp t),rfl⟩)
   have S:=OH (G:=G) es X;exact hZ (rc 2 rfl) ⟨_,rfl⟩ aD.1<|abm 5 (aL (aK.2.1.1 _ aD.2)) (by rw [cz];exact bF (a9 (bB S C) (by decide))) (acB (OG v X)) (acA _) λ b2=>qa (rc 5 rfl) (by rw [cz];have:=(Gp (G:=G) es X).length_eq;unfold au.goto at this;rw [this];unfold lim;exact bF (a9 (bB S C) (by decide)))<|j4 [3,2] [] rfl rfl (w _)
end
section
variable {W:a0} {P:eg} {r:Nat} {E:ag->Prop} {H:ag} {Q:KE} {g:ak} {G:au}
def gw (X:ak->Prop) (H aa:ag):Prop:=∀a o,¬X a->H a=some o->aa a=some o
theorem gw.refl (X:ak->Prop) (H:ag):gw X H H:=λ _ _ _ e=>e
theorem gw.trans {X:ak->Prop} {H b:ag} (x:gw X H aa) (y:gw X aa b):gw X H b:=λ a o h e=>y a o h (x a o h e)
theorem Ext.but {X:ak->Prop} (x:Ext H aa):gw X H aa:=λ a o _ e=>x a o e
theorem gw.mono {X Y:ak->Prop} (x:gw X H aa) (h:∀a,X a->Y a):gw Y H aa:=λ a o n e=>x a o (λ q=>n (h a q)) e
theorem gw.upd {X:ak->Prop} {a:ak} {o:c5} (x:gw X B H) (h:X a):gw X B (H.upd a o):=λ b bw n e=>by
 rw [ag.er]
 ·exact x b bw n e
 ·rintro rfl;exact n h
theorem gw.ajE {X:ak->Prop} {a:ak} (x:gw X B H) (h:B a=none):gw X B (H.upd a o):=λ b bw n e=>by
 rw [ag.er]
 ·exact x b bw n e
 ·rintro rfl;rw [h] at e;cases e
theorem gw.none {X:ak->Prop} {H:ag} (x:gw X H aa) {a:ak} (b:¬X a) (h:aa a=sr):H a=sr:=by
 cases e:H a with
 | none=>rfl
 | some o=>rw [x a o b e] at h;cases h
theorem gw.toExt {X:ak->Prop} (x:gw X H aa) (h:∀a,X a->H a=sr):Ext H aa:=λ a o e=>x a o (λ q=>by rw [h a q] at e;cases e) e
structure ck where
 x:ak
 it:ak
 bS:ak
 c2:ak
 re:ak
structure SVal where
 num:Nat
 aU:a8
 sym:Int
 items:a8
 moves:a8
 bP:a8
 r2:aw
noncomputable abbrev b9:=List SVal
noncomputable abbrev ez (H:ag) (aA:ck) (S:SVal):Prop:=jC (∃fs,H aA.x=some (.inst .hj fs)∧fs .number=some (.int S.num)∧fs .kernel=some (cS S.aU)∧fs .core=some (.tup (nats (ar S.aU)))∧fs .symbol=some (.int S.sym)∧fs .items=some (.ref aA.it)∧fs .moves=some (.ref aA.bS)∧fs .bP=some (.ref aA.c2)∧fs .JH=some (.ref aA.re)) (H aA.it=some (.dict .int (dJ S.items))) (H aA.bS=some (.dict .int (dJ S.moves))) (H aA.c2=some (.dict .int (dJ S.bP))) (H aA.re=some (.list (nats S.r2)))
theorem ez.ext (x:ez H aA S) (k:Ext H aa):ez aa aA S:=by
 obtain ⟨⟨fs,h⟩,a,b,c,d⟩:=x;exact ⟨⟨fs,k _ _ h.1,h.2⟩,k _ _ a,k _ _ b,k _ _ c,k _ _ d⟩
theorem ez.Gu {X:ak->Prop} (x:ez H aA S) (k:gw X H aa) (J:¬X aA.x) (e:¬X aA.it) (f:¬X aA.bS) (g:¬X aA.c2) (i:¬X aA.re):ez aa aA S:=by
 obtain ⟨⟨fs,h⟩,a,b,c,d⟩:=x;exact ⟨⟨fs,k _ _ J h.1,h.2⟩,k _ _ e a,k _ _ f b,k _ _ g c,k _ _ i d⟩
noncomputable abbrev ck.yA (aA:ck) (H:ag):Prop:=eT (H aA.x=none) (H aA.it=none) (H aA.bS=none) (H aA.c2=none) (H aA.re=none) (A2 (aA.bS≠aA.it) (aA.bS≠aA.c2))
theorem ON {C:gY} {L:Cells} {k:aJ} {st:aV} {K':dK} {K:a8} (m:Nat) (cw:K.length<=100) (q:∀c,T C B ((m,c,.list (nats (ar K)))::L) (bb C.n k (.tup (nats (ar K))::st) A) K'):
  T C B L (.comp (.one 0) 1 [] [.ae 0,.aN (.int 0),.sub]:: .call e .Aj 1::k,cS K::st,A) K':=
 nT (c0:=λ p:Nat×Nat=> .tup [.int p.1,.int p.2]) m K (λ p=> .int (p.1:Nat)) vH (by unfold lim;exact bF (a9 cw (by decide))) (λ p _ K' a=>⟨_,rfl,rN (i:=0) (by decide) rfl (a _)⟩) λ c=>by
  have:K.map (λ p=>ai.int (p.1:Nat))=nats (ar K):=by unfold nats ar;rw [e5];rfl
  rw [this];exact qa (rc m (by rw [FX,Ts];rfl)) (by rw [eu,f3];unfold lim;exact bF (a9 cw (by decide))) (q c)
theorem acI (Z:Base W P) {num:Nat} {K:a8} {sym:Int} (cw:K.length<=100) (q:∀aA aa,Ext H aa->ck.yA aA H->ez aa aA ⟨num,K,sym,[],[],[],[]⟩->Q (.ref aA.x) aa):
  dw W (r+2) .hj [.int num,cS K,.int sym] H Q E:=by
 refine Z2 Z λ x a=>yo 4 a rfl<|fo 0 rfl rfl<|fo 0 rfl rfl<|ON 1 cw λ c=>fo 0 rfl rfl<|fo 0 rfl rfl<|lh 2 .int λ it=>fo 0 rfl rfl<|lh 3 .int λ bS=>fo 0 rfl rfl<|fw 4 rfl λ re=>fo 0 rfl rfl<|lh 5 .int λ c2=>fo 0 rfl rfl<|vG λ aa f=>⟨rfl,?_⟩;exact q ⟨x,it,bS,c2,re⟩ aa f.1 ⟨a,f.2 2 _ _ rfl,f.2 3 _ _ rfl,f.2 5 _ _ rfl,f.2 4 _ _ rfl,f.BF (n:=3) (m:=2) rfl rfl (by decide),f.BF (n:=3) (m:=5) rfl rfl (by decide)⟩ ⟨⟨_,f.get 0 rfl,rfl,rfl,rfl,rfl,rfl,rfl,rfl,rfl⟩,f.get 2 rfl,f.get 3 rfl,f.get 5 rfl,f.get 4 rfl⟩
section
variable {C:gY} {B:ag} {L:Cells} {k:aJ} {st:aV} {A:du} {K:dK} {aA:ck} {S:SVal}
theorem acJ (y:ez B aA S) (q:T C B L (bb C.n k (.int S.num::st) A) K):T C B L (.bi .number::k,.ref aA.x::st,A) K:=y.1.elim λ _ F=>bO (aL F.1) rfl F.2.1 q
theorem BW (y:ez B aA S) (q:T C B L (bb C.n k (cS S.aU::st) A) K):T C B L (.bi .kernel::k,.ref aA.x::st,A) K:=y.1.elim λ _ F=>bO (aL F.1) rfl F.2.2.1 q
theorem yB (y:ez B aA S) (q:T C B L (bb C.n k (.tup (nats (ar S.aU))::st) A) K):T C B L (.bi .core::k,.ref aA.x::st,A) K:=y.1.elim λ _ F=>bO (aL F.1) rfl F.2.2.2.1 q
theorem ajF (y:ez B aA S) (q:T C B L (bb C.n k (.int S.sym::st) A) K):T C B L (.bi .symbol::k,.ref aA.x::st,A) K:=y.1.elim λ _ F=>bO (aL F.1) rfl F.2.2.2.2.1 q
theorem tH (y:ez B aA S) (q:T C B L (bb C.n k (.ref aA.it::st) A) K):T C B L (.bi .items::k,.ref aA.x::st,A) K:=y.1.elim λ _ F=>bO (aL F.1) rfl F.2.2.2.2.2.1 q
theorem yC (y:ez B aA S) (q:T C B L (bb C.n k (.ref aA.bS::st) A) K):T C B L (.bi .moves::k,.ref aA.x::st,A) K:=y.1.elim λ _ F=>bO (aL F.1) rfl F.2.2.2.2.2.2.1 q
theorem OO (y:ez B aA S) (q:T C B L (bb C.n k (.ref aA.c2::st) A) K):T C B L (.bi .bP::k,.ref aA.x::st,A) K:=y.1.elim λ _ F=>bO (aL F.1) rfl F.2.2.2.2.2.2.2.1 q
theorem acK (y:ez B aA S) (q:T C B L (bb C.n k (.ref aA.re::st) A) K):T C B L (.bi .JH::k,.ref aA.x::st,A) K:=y.1.elim λ _ F=>bO (aL F.1) rfl F.2.2.2.2.2.2.2.2 q
theorem ajG {G:aP} (y:ez B aA S) (q:T C B L (bb C.n k (.ref aA.x::st) A) K):T C B L (.cG (.o .hj G)::k,.ref aA.x::st,A) K:=y.1.elim λ _ F=>p9 (aL F.1) q
end
end
section
variable {W:a0} {P:eg} {r:Nat} {E:ag->Prop} {H:ag} {Q:KE} {g:ak} {G:au}
noncomputable def au.dv (G:au) (es:a8):a8:=es.foldl (λ ms p=>if 0<G.own p.1/\ G.cC p.1=none then d5 ms (G.own p.1) p.2 else ms) []
theorem yD (es:a8) (p:Nat×Nat):G.dv (es++[p])=if 0<G.own p.1/\ G.cC p.1=none then d5 (G.dv es) (G.own p.1) p.2 else G.dv es:=by
 unfold au.dv;rw [ki];rfl
theorem Gv:∀(es:a8),(∀p∈es,p.1<G.N)->(ar (G.dv es)).Nodup∧∀k∈ar (G.dv es),k<G.R:=by
 refine lq (λ _=>⟨.nil,λ k h=>by cases h⟩) λ es p ih h=> ?_
 have aD:=ih λ q a=>h q (f9 _ a);rw [yD]
 split
 ·refine ⟨BM aD.1 _ _,λ k ao=> ?_⟩;rcases yt.mp ao with rfl | ao
  ·exact (au.jK (h p (by simp))).1
  ·exact aD.2 k ao
 ·exact ⟨aD.1,aD.2⟩
noncomputable def ea (l:aw):aw:=l.mergeSort λ a b=>decide (a<=b)
theorem acL (Z:Base W P) (O:G.Ok) (x:dS dj g G) (et:Ext dj H) (B:dj aA.x=none) (y:ez H aA S) (c:H it=some (.dict .int (dJ es)))
  (u:(ar es).Nodup) (C:∀i m,br es i=some m->i<G.N∧m<2^12)
  (q:∀c2 re aa,gw (· =aA.x) H aa->H c2=none->H re=none->ez aa ⟨aA.x,it,aA.bS,c2,re⟩ ⟨S.num,S.aU,S.sym,es,S.moves,G.dv es,ea (ar (G.dv es))⟩->Q .none aa):
  dw W (r+2) .Ac [.ref aA.x,.ref g,.ref it] H Q E:=by
 have v:∀p∈es,p.1<G.N:=λ p D=>(C p.1 p.2 (ew u D)).1;have w:∀d e,es=d++e->(G.dv d).length<=20:=λ d e h=>by
  have m:=Gv (G:=G) d λ q I=>v q (h▸f9 _ I);have:=jM _ _ m.1 m.2;rw [f3] at this;exact bB this O.3
 refine y.1.elim λ fs F=> ?_;have k:it≠aA.x:=by rintro rfl;rw [c] at F;cases F.1
 have K:aA.bS≠aA.x:=by intro e;have:=y.3;rw [e,F.1] at this;cases this
 have l:=x.ext (ag.abo et B);have b:∀{a o},a≠aA.x->H a=some o->H.del aA.x a=some o:=λ h e=>(ag.yk _ h).trans e;refine ZP Z (abp 5 F.1 rfl<|BD 0 rfl rfl<|lh 1 .int λ c2=>BD 0 rfl rfl<|eL (ys:=es) (c0:=λ p:Nat×Nat=> .int (p.1:Nat)) [0,1] [0,1,2] (cQ:=λ _ _=>H.del aA.x) (cR:=λ d _=>[(0,aA.x,.inst .hj λ g=>if g= .bP then some (.ref c2) else if g= .items then some (.ref it) else fs g),(1,c2,.dict .int (dJ (G.dv d)))]) (lf:=λ _ _=>[(0,.ref aA.x),(1,.ref g),(2,.ref it)])
  (λ _ _ (_:Unit)=>True) () (tC (aL (b k c)) (by unfold dJ;rw [e5];rfl) λ _ _=>aL (b k c)) rfl rfl rfl trivial (λ d p e _ K' hd _ s _=>⟨_,rfl,?_⟩) λ _ _=> ?_)
 ·have z:p∈es:=by rw [hd];simp
  have A:=v p z;rw [yD] at s;refine jm l<|BK Z O l A<|fv (λ J=>jm l<|F9 Z O l A<|fv (λ j=> ?_) λ j=>cK (s () trivial) (by rw [if_neg λ h=>j (by unfold au.j6;rw [h.2];decide)];rfl) rfl) λ J=>cK (s () trivial) (by rw [if_neg λ h=>J (hx.mpr h.1)];rfl) rfl
  have t:G.cC p.1=none:=by
   cases h:G.cC p.1 with
   | none=>rfl
   | some X=>unfold au.j6 at j;rw [h] at j;exact absurd j (by simp)
  exact hZ (aL (b k c)) ⟨_,rfl⟩ (by rw [h1,ew u z];rfl)<|bO (rc 0 rfl) rfl rfl<|oU 1 rfl ⟨_,rfl⟩ (by rw [j7];unfold lim;exact a9 (w d _ hd) (by decide)) (qg ..)<|cK (s () trivial) (by rw [if_pos ⟨hx.mp J,t⟩];rfl) rfl
 ·refine bO (rc 0 rfl) rfl rfl<|qb 2 (rc 1 rfl) (by rw [j7];exact bF (a9 (w es [] (h9 _).symm) (by decide))) ((congrArg (aio · gB) (oZ _)).trans (qm _)) λ re=>BD 0 rfl rfl<|vG λ aa f=> ?_
  exact q c2 re aa (λ a o t e=>f.1 _ _ (b t e)) ((ag.yk H (f.BF (n:=1) (m:=0) rfl rfl (by decide))).symm.trans (f.2 1 _ _ rfl)) ((ag.yk H (f.BF (n:=2) (m:=0) rfl rfl (by decide))).symm.trans (f.2 2 _ _ rfl)) ⟨⟨_,f.get 0 rfl,F.2.1,F.2.2.1,F.2.2.2.1,F.2.2.2.2.1,rfl,F.2.2.2.2.2.2.1,rfl,rfl⟩,f.1 _ _ (b k c),f.1 _ _ (b K y.3),f.get 1 rfl,f.get 2 rfl⟩
theorem acN (Z:Base W P) (O:G.Ok) (x:dS H g G) (q:∀aa,Ext H aa->Q (cS [(G.off 0,0)]) aa):dw W (r+2) .DP [.ref g] H Q E:=
 Zs Z (fN 1 rfl<|jm x<|N4 (s:=0) Z O x O.4<|e9 λ aa f=>q aa f.1)
end
section
variable {W:a0} {P:eg} {r:Nat} {E:ag->Prop} {H:ag} {Q:KE} {g:ak} {G:au}
noncomputable def bV (K:a8) (i:Nat):Nat:=(K.getD i (0,0)).2
noncomputable def fP (K:a8) (i:Nat):Nat:=(K.getD i (0,0)).1
def r3 (a b:a8) (i j:Nat):Prop:=(bV a i&&&bV b j=0∧bV a j&&&bV b i=0)∨bV a i&&&bV a j≠0∨bV b i&&&bV b j≠0
def il (a b:a8):Prop:=∀i j,i<j->j<a.length->r3 a b i j
noncomputable def c3 (a b:a8):a8:=(cg a.length).map λ k=>(fP a k,bV a k|||bV b k)
theorem OP {K:a8} {i:Nat} (h:i<K.length):(K.map h5)[i]? =some (.tup [.int (fP K i),.int (bV K i)]):=by
 rw [ff,c4 h];simp [h5,fP,bV,h]
section
variable {C:gY} {B:ag} {L:Cells} {k:aJ} {st:aV} {A:du} {K':dK} {X:a8} {i:Nat}
theorem jp (h:i<X.length) (a:i<1000) (q:T C B L (bb C.n k (.int (bV X i:Nat)::st) A) K'):T C B L (.sub:: .aN (.int 1):: .sub::k,.int (i:Nat)::cS X::st,A) K':=
 rN (bX a (by decide)) (OP h)<|rN (i:=1) (by decide) rfl q
theorem OQ (h:i<X.length) (a:i<1000) (q:T C B L (bb C.n k (.int (fP X i:Nat)::st) A) K'):T C B L (.sub:: .aN (.int 0):: .sub::k,.int (i:Nat)::cS X::st,A) K':=
 rN (bX a (by decide)) (OP h)<|rN (i:=0) (by decide) rfl q
theorem OR (h:X.length<=1000) (q:T C B L (bb C.n k (.int (X.length:Nat)::st) A) K'):T C B L (.call e .sJ 1::k,cS X::st,A) K':=yj (cz ..) (by unfold lim;exact bF (a9 h (by decide))) q
end
theorem OS (Z:Base W P) {a b:a8} (c:a.length<=100) (y:b.length=a.length) (q:∀aa,Ext H aa->Q (.bool (decide (il a b))) aa):dw W (r+1) .DQ [cS a,cS b] H Q E:=by
 refine Zx Z (fN 5 rfl<|OR (bF (a9 c (by decide)))<|l1 (a9 c (by decide))<|eL (ys:=cg a.length) (c0:=λ n:Nat=> .int n) [] [0,1,2] (cQ:=λ _ _=>H) (cR:=λ _ _=>[]) (lf:=λ _ _=>[(0,cS a),(1,cS b),(2,.int (a.length:Nat))])
  (λ d _ (_:Unit)=>∀i j,i<d.length->i<j->j<a.length->r3 a b i j) () (nS (a9 c (by decide))) rfl rfl rfl (λ _ _ h=>absurd h (wy _)) (λ d i e _ K' hd I B C=>⟨_,rfl,?_⟩) λ _ I=>e9 λ aa f=>by rw [gy] at I;rw [decide_eq_true (show il a b from λ i j J g=>I i j (bX J g) J g)] at q;exact q aa f.1)
 have m:=(hr hd).2.1;refine abj (i:=i+1) (bD (.l .p (.k 100)<| .l (.s .q) .p<| .g (.s (.s .q)) (.k 1152921504606846976)) rfl c m) (a9 c (by decide))<|eL (ys:=cg (a.length - (i+1))) (c0:=λ j:Nat=> .int ((i+1+j:Nat):Int)) [] [0,1,2,3] (cQ:=λ _ _=>H) (cR:=λ _ _=>[]) (lf:=λ _ _=>[(0,cS a),(1,cS b),(2,.int (a.length:Nat)),(3,.int (i:Nat))])
  (λ d _ (_:Unit)=>∀j,j<d.length->r3 a b i (i+1+j)) () (abu (bD (.l .p (.k 100)<| .l (.s .q) .p<| .g (.s (.s .q)) (.k 1152921504606846976)) rfl c m) (a9 c (by decide))) rfl rfl rfl (λ _ h=>absurd h (wy _)) (λ D j o _ G t aK u F=>⟨_,rfl,?_⟩) λ _ aK=>cK (B () λ s k J g l=> ?_) rfl rfl
 ·have go:r3 a b i (i+1+j)->∀k,k<(D++[j]).length->r3 a b i (i+1+k):=λ h k z=>by
   rw [cI,(hr t).2.2] at z;rcases uo (iw z) with h' | h'
   ·exact aK k ((hr t).2.2.symm▸h')
   ·rw [h'];exact h
  have J:i<a.length:=m;have g:i+1+j<a.length:=eZ (.l (.s .p) .q<| .l (.a .q (.s .r)) .t<| .g (.s (.a (.s .r) .p)) .t) rfl ((hr t).2.1) (bE (ef (bD (.l (.s .p) .q<| .g (.s .p) .q) rfl m)));have l:i<b.length:=y▸J;have A:i+1+j<b.length:=y▸g;refine jp J (bX (bx J c) (by decide))<|jp A (bX (bx g c) (by decide))<|rO<|fv (λ v=>jp g (bX (bx g c) (by decide))<|jp l (bX (bx J c) (by decide))<|rO<|fv (λ o=>yl (u () (go (.inl ⟨fU v,fU o⟩))) rfl rfl) λ o=> ?_) λ v=> ?_
  all_goals
   refine jp J (bX (bx J c) (by decide))<|jp g (bX (bx g c) (by decide))<|rO<|NR (λ w=>yl (u () (go (.inr (.inl w)))) rfl rfl) λ w=>jp l (bX (bx J c) (by decide))<|jp A (bX (bx g c) (by decide))<|rO<|NR (λ x=>yl (u () (go (.inr (.inr x)))) rfl rfl) λ x=>F<|C<|e9 λ aa f=> ?_
   rw [decide_eq_false (p:=il a b) (λ h=>(h i (i+1+j) (bx (gj _) (fJ _ _)) g).elim (λ h=>by first | exact v (congrArg ml h.1) | exact o (congrArg ml h.2)) λ h=>h.elim (λ h=>h w) λ h=>h x)] at q
   exact q aa f.1
 ·rw [cI,(hr hd).2.2] at J;rw [gy] at aK;rcases uo (iw J) with h | h
  ·exact I s k ((hr hd).2.2.symm▸h) g l
  ·subst h;have:=aK (k - (s+1)) (hC (.l (.s .p) .q<| .l (.a .r (.s .t)) .p<| .l .q (.a .u (.s .t))<| .g (.s .r) .u) rfl l (bE (ef (bD (.l (.s .p) .q<| .g (.s .p) .q) rfl g))) (sb _ _));rwa [show s+1+(k - (s+1))=k by exact dg (ci (.l (.a .p (.s .q)) .r<| .g (.a (.s .q) .p) .r) rfl (bE (ef (bD (.l (.s .p) .q<| .g (.s .p) .q) rfl g)))) (ci (.l .p (.a .q (.s .r))<| .g .p (.a (.s .r) .q)) rfl (sb _ _))] at this
theorem OU (Z:Base W P) {a b:a8} (d:a.length<=100) (e:b.length=a.length) (q:∀aa,Ext H aa->Q (cS (c3 a b)) aa):dw W (r+1) .DR [cS a,cS b] H Q E:=
 Zy Z (fN 2 rfl<|OR (bF (a9 d (by decide)))<|l1 (a9 d (by decide))<|nT (c0:=λ n:Nat=> .int n) 1 (cg a.length) (λ k=> .tup [.int (fP a k:Nat),.int (bV a k|||bV b k:Nat)]) (nS (a9 d (by decide))) (by rw [gy];unfold lim;exact bF (a9 d (by decide)))
  (λ k ao K' g=>⟨_,rfl,by
   have J:=fK.mp ao;exact OQ J (bX (bx J d) (by decide))<|jp J (bX (bx J d) (by decide))<|jp (e▸J:k<b.length) (bX (bx J d) (by decide))<|oT (g _)⟩) λ c=>qa (rc 1 rfl) (by rw [cz,gy];unfold lim;exact bF (a9 d (by decide)))<|e9 λ aa f=>by
   have:=q aa f.1;unfold cS c3 at this;rw [e5] at this;exact this)
end
noncomputable abbrev eM (H:ag) (aZ:List ck) (aj:b9):Prop:=jC (aZ.length=aj.length) (∀(i:Nat) aA S,aZ[i]? =some aA->aj[i]? =some S->ez H aA S) ((aZ.map (·.x)).Nodup) ((aZ.map (·.bS)).Nodup) (∀aA∈aZ,∀σ∈aZ,aA.bS≠σ.it∧aA.bS≠σ.c2)
theorem eM.get (x:eM H aZ aj) {i:Nat} (h:i<aj.length):dB λ aA S=>aZ[i]? =some aA∧aj[i]? =some S∧ez H aA S∧aA∈aZ:=by
 have h':i<aZ.length:=by rw [x.1];exact h
 exact ⟨aZ[i],aj[i],c4 h',c4 h,x.2 _ _ _ (c4 h') (c4 h),jd h'⟩
theorem eM.tI (x:eM H aZ aj) (h:aA∈aZ):∃S,ez H aA S:=by
 obtain ⟨i,a,rfl⟩:=mi h;have h':i<aj.length:=by rw [<- x.1];exact a
 exact ⟨aj[i],x.2 _ _ _ (c4 a) (c4 h')⟩
theorem eM.ext (x:eM H aZ aj) (k:Ext H aa):eM aa aZ aj:=
 ⟨x.1,λ i aA S a b=>(x.2 i aA S a b).ext k,x.3,x.4,x.5⟩
theorem ez.yE {T:SVal} (x:ez H aA S) (y:ez H σ T):aA.x≠σ.it∧aA.x≠σ.bS∧aA.x≠σ.c2∧aA.x≠σ.re:=by
 obtain ⟨⟨fs,h,_⟩,_⟩:=x;refine ⟨λ e=> ?_,λ e=> ?_,λ e=> ?_,λ e=> ?_⟩
 ·have:=y.2;rw [<- e,h] at this;cases this
 ·have:=y.3;rw [<- e,h] at this;cases this
 ·have:=y.4;rw [<- e,h] at this;cases this
 ·have:=y.5;rw [<- e,h] at this;cases this
theorem ez.OV {T:SVal} (x:ez H aA S) (y:ez H σ T):aA.bS≠σ.re:=λ e=>by
 have:=y.5;rw [<- e,x.3] at this;cases this
theorem yF {α β:Type} {f:α->β} {l:List α} (h:(l.map f).Nodup) {a b:α} (c:l[i]? =some a) (d:l[j]? =some b) (e:f a=f b):i=j:=by
 obtain ⟨J,g⟩:=cF.mp c;obtain ⟨k,m⟩:=cF.mp d;exact (qF (h₀:=by simpa using J) (h₁:=by simpa using k) h).mp (by rw [sD,sD,g,m,e])
theorem eM.push {aZ:List ck} {aj:b9} (x:eM H aZ aj) (k:Ext H aa) (n:ck.yA aA H) (y:ez aa aA S):eM aa (aZ++[aA]) (aj++[S]):=by
 have mq:∀σ∈aZ,H σ.x≠none∧H σ.it≠none∧H σ.bS≠none∧H σ.c2≠none:=λ σ h=>by
  obtain ⟨T,z⟩:=x.tI h;obtain ⟨⟨fs,J,_⟩,l,m,o,_⟩:=z;exact ⟨by rw [J];simp,by rw [l];simp,by rw [m];simp,by rw [o];simp⟩
 refine ⟨by simp [x.1],λ i σ T a b=> ?_,?_,?_,λ σ h0 τ j=> ?_⟩
 ·by_cases d:i<aZ.length
  ·rw [jY d] at a;rw [jY (by rw [<- x.1];exact d)] at b
   exact (x.2 i σ T a b).ext k
  ·rw [jA (fD d)] at a;rw [jA (by rw [<- x.1];exact fD d)] at b
   have hz:i - aZ.length=0:=by
    have:=(cF.mp a).1;simp at this;exact this
   rw [hz] at a;rw [<- x.1,hz] at b;simp only [Jf,DH] at a b;subst a b;exact y
 ·rw [eR,gx];refine ⟨x.3,by simp,λ a f b c=> ?_⟩
  simp only [fe,kU,b3] at c;subst c;rintro rfl;obtain ⟨σ,g,e⟩:=bH.mp f;exact (mq σ g).1 (e▸n.1)
 ·rw [eR,gx];refine ⟨x.4,by simp,λ a f b c=> ?_⟩
  simp only [fe,kU,b3] at c;subst c;rintro rfl;obtain ⟨σ,g,e⟩:=bH.mp f;exact (mq σ g).2.2.1 (e▸n.3)
 ·rcases c6.mp h0 with h | h<;>rcases c6.mp j with h' | h'<;>clear h0 j
  ·exact x.5 σ h τ h'
  ·rw [b3] at h';subst h';exact ⟨λ e=>(mq σ h).2.2.1 (e▸n.2),λ e=>(mq σ h).2.2.1 (e▸n.4)⟩
  ·rw [b3] at h;subst h;exact ⟨λ e=>(mq τ h').2.1 (e▸n.3),λ e=>(mq τ h').2.2.2 (e▸n.3)⟩
  ·rw [b3] at h h';subst h h';exact ⟨n.6.1,n.6.2⟩
theorem eM.setItems (x:eM H aZ aj) (c:aZ[i]? =some aA) (k:gw (· =aA.x) H aa) (y:ez aa ⟨aA.x,it,aA.bS,c2,re⟩ S')
  (m:∀σ∈aZ,σ.bS≠it) (q:H c2=none):eM aa (aZ.set i ⟨aA.x,it,aA.bS,c2,re⟩) (aj.set i S'):=by
 have g:=(cF.mp c).1;have n:∀σ∈aZ,σ.bS≠c2:=λ σ h e=>by
  obtain ⟨T,z⟩:=x.tI h;have:=z.3;rw [e,q] at this;cases this
 have o:∀{α:Type} (f:ck->α),f ⟨aA.x,it,aA.bS,c2,re⟩=f aA->(aZ.set i ⟨aA.x,it,aA.bS,c2,re⟩).map f=aZ.map f:=λ f e=>by
  rw [wR,e];have:(aZ.map f)[i]? =some (f aA):=by rw [ff,c];rfl
  obtain ⟨J,r⟩:=cF.mp this;rw [<- r,DI]
 refine ⟨by simp [x.1],λ j σ T a b=> ?_,?_,?_,λ σ h τ h'=> ?_⟩
 ·by_cases h:j=i
  ·subst h;rw [hP g] at a;rw [hP (by rw [<- x.1];exact g)] at b
   cases a;cases b;exact y
  ·rw [iS (λ e=>h e.symm)] at a b;have z:=x.2 j σ T a b;obtain ⟨S,s⟩:∃S,aj[i]? =some S:=⟨aj[i]'(by rw [<- x.1];exact g),c4 _⟩
   have d:=(x.2 i aA S c s).yE z;exact z.Gu k (λ e=>h (yF x.3 a c e)) (λ e=>d.1 e.symm) (λ e=>d.2.1 e.symm) (λ e=>d.2.2.1 e.symm) λ e=>d.2.2.2 e.symm
 ·rw [o (·.x) rfl];exact x.3
 ·rw [o (·.bS) rfl];exact x.4
 ·have p:∀σ,σ∈aZ.set i ⟨aA.x,it,aA.bS,c2,re⟩->σ∈aZ∨σ=⟨aA.x,it,aA.bS,c2,re⟩:=λ σ h=>wW h;have l:=cY c;rcases p σ h with h | rfl<;>rcases p τ h' with h' | rfl
  ·exact x.5 σ h τ h'
  ·exact ⟨m σ h,n σ h⟩
  ·exact x.5 aA l τ h'
  ·exact ⟨m aA l,n aA l⟩
theorem eM.OX (x:eM H aZ aj) {i:Nat} (c:aZ[i]? =some aA) (g:aj[i]? =some S) (bS:a8):
  eM (H.upd aA.bS (.dict .int (dJ bS))) aZ (aj.set i {S with moves:=bS}):=by
 have d:=cY c;refine ⟨by simp [x.1],λ j σ T a b=> ?_,x.3,x.4,x.5⟩
 have k:=x.2 i aA S c g
 by_cases h:j=i
 ·subst h;rw [c] at a;cases a;rw [hP (by rw [<- x.1];exact ((cF.mp c).1))] at b
  cases b;obtain ⟨⟨fs,f⟩,a2,bA,cW,l⟩:=k;exact ⟨⟨fs,by rw [ag.er _ _ ((x.2 j aA S c g).yE (x.2 j aA S c g) |>.2.1:aA.x≠aA.bS)];exact f.1,f.2⟩,by rw [ag.er _ _ (hy (x.5 aA d aA d).1)];exact a2,ag.fL ..,by rw [ag.er _ _ (hy (x.5 aA d aA d).2)];exact cW,by rw [ag.er _ _ (hy ((x.2 j aA S c g).OV (x.2 j aA S c g)))];exact l⟩
 ·rw [iS (λ e=>h e.symm)] at b;have z:=x.2 j σ T a b;have m:=cY a;have aD:=z.yE k;have n:=k.OV z;obtain ⟨⟨fs,f⟩,a2,bA,cW,l⟩:=z;exact ⟨⟨fs,by rw [ag.er _ _ aD.2.1];exact f.1,f.2⟩,by rw [ag.er _ _ (hy (x.5 aA d σ m).1)];exact a2,by rw [ag.er _ _ (λ e=>h (yF x.4 a c e):σ.bS≠aA.bS)];exact bA,by rw [ag.er _ _ (hy (x.5 aA d σ m).2)];exact cW,by rw [ag.er _ _ (hy n)];exact l⟩
noncomputable def BY:Shape:= .key
theorem BZ (K:a8):BY.has (cS K):=by
 refine ⟨_,rfl,λ x a=> ?_⟩;obtain ⟨p,_,rfl⟩:=bH.mp a;exact .inr ⟨_,rfl,kg.mpr ⟨.inl ⟨_,rfl⟩,kg.mpr ⟨.inl ⟨_,rfl⟩,λ _ h=>(by cases h)⟩⟩⟩
theorem Gw {p q:Nat×Nat} (h:h5 p=h5 q):p=q:=by
 unfold h5 at h;injection h with h;injection h with J a;injection a with a _;injection J with J;injection a with a;exact ux (fU J) (fU a)
theorem acQ {K L:a8} (h:cS K=cS L):K=L:=by
 rw [tF,tF] at h;injection h with h;exact (Jg λ x y h=>Gw h).mp h
noncomputable def mS (l:List a8):List (ai×ai):=l.zipIdx.map λ p=>(cS p.1,.int (p.2:Nat))
theorem OY (l:List a8) (K:a8):mS (l++[K])=mS l++[(cS K,.int (l.length:Nat))]:=by simp [mS,Tw]
theorem Gx (es fs:List (ai×ai)) (k:ai):cU (es++fs) k=(cU es k).or (cU fs k):=by
 unfold cU;rw [List.find?_append];cases es.find? (λ e=>decide (e.1=k))<;>simp
theorem OZ:∀(l:List a8),l.Nodup->∀K,(K∉l->cU (mS l) (cS K)=none)∧∀i,l[i]? =some K->cU (mS l) (cS K)=some (.int (i:Nat)):=by
 refine lq (λ _ K=>⟨λ _=>rfl,λ i h=>by simp at h⟩) λ l L ih a K=> ?_
 rw [gx] at a;have b:=ih a.1 K;rw [OY];refine ⟨λ h=> ?_,λ i h=> ?_⟩
 ·rw [Gx,b.1 (λ h'=>h (f9 _ h'))];have:¬cS L=cS K:=λ e=>h (by rw [acQ e];simp)
  simp [cU,this]
 ·rw [Gx]
  by_cases c:i<l.length
  ·rw [jY c] at h;rw [b.2 i h];rfl
  ·rw [jA (fD c)] at h;have hz:i - l.length=0:=by
    have:=(cF.mp h).1;simp at this;exact this
   rw [hz] at h;simp only [Jf,DH] at h;subst h;rw [b.1 (λ h'=>a.2.2 L h' L (by simp) rfl:L∉l)]
   have e:i=l.length:=dg (ci (.e .p (.k 0)<| .l .q (.a .p .r)<| .g .q .r) rfl hz (sb _ _)) (bD (.l .p .q<| .g .p .q) rfl (fD c));subst e;simp [cU]
theorem acR {l:List a8} (a:l.Nodup) {K:a8} (h:K∉l):hk (mS l) (cS K) (.int (l.length:Nat))=mS (l++[K]):=by
 unfold hk;rw [(OZ l a K).1 h,OY];rfl
theorem acS (l:List a8):(mS l).length=l.length:=by simp [mS]
noncomputable abbrev fQ (G:au) (K:a8):Prop:=A2 ((ar K).Pairwise (·< ·)) (∀p∈K,p.1<G.N∧p.2<2^12)
theorem fQ.nodup {K:a8} (x:fQ G K):(ar K).Nodup:=x.1.imp λ h=>e6 h
theorem fQ.len (O:G.Ok) {K:a8} (x:fQ G K):K.length<=50:=by
 have:=jM G.N (ar K) x.nodup λ a b=>by
  obtain ⟨p,c,rfl⟩:=bH.mp b;exact (x.2 p c).1
 rw [f3] at this;exact bB this O.5
theorem Gy {K:a8} (x:c1 G nul aT K es) (X:Nat):fQ G (G.goto es X):=by
 refine ⟨lr x.1 X,λ p a=> ?_⟩;obtain ⟨i,aD⟩:=mQ.mp a;have:=x.4 i p.2 (ew x.1 aD.2.1);exact ⟨by rw [aD.1];exact (au.qe this.1 aD.2.2).2.1,this.2⟩
noncomputable def au.dY (G:au):a8:=[(G.off 0,0)]
theorem o4 (O:G.Ok):fQ G G.dY:=⟨List.pairwise_singleton ..,λ p a=>by
 simp only [au.dY,b3] at a;subst a;exact ⟨au.tD O.4,(by show 0<2^12;decide)⟩⟩
structure B0 (G:au) (df:a8->Prop):Prop where
 start:df G.dY
 goto:∀K es,df K->c1 G G.bN G.bR K es->∀X∈G.syms es,df (G.goto es X)
 bound:∀l:List a8,l.Nodup->(∀K∈l,df K)->l.length<2000
section
variable {W:a0} {P:eg} {r:Nat} {E:ag->Prop} {H:ag} {Q:KE} {g:ak} {G:au}
inductive o5 (H:ag) (a:ak) (aZ:List ck):Prop
 | mk (ex:dB λ fs cZ=>H a=some (.inst .kW fs)∧fs .sO=some (.ref cZ)∧H cZ=some (.list (aZ.map λ aA=> .ref aA.x)))
theorem o5.ext {a:ak} (x:o5 H a aZ) (k:Ext H aa):o5 aa a aZ:=by
 obtain ⟨fs,cZ,a1,a2,bA⟩:=x.1;exact ⟨fs,cZ,k _ _ a1,a2,k _ _ bA⟩
theorem O0 (Z:Base W P) {br:ai} {cZ:ak} (h:H cZ=some (.list (aZ.map λ aA=> .ref aA.x))) (q:∀a aa,Ext H aa->H a=none->o5 aa a aZ->Q (.ref a) aa):dw W (r+2) .kW [br,.ref cZ] H Q E:=
 Z4 Z λ x b=>yo 3 b rfl<|fo 0 rfl rfl<|fo 0 rfl rfl<|vG λ aa f=>⟨rfl,q x aa f.1 b ⟨_,cZ,f.get 0 rfl,rfl,f.1 _ _ h⟩⟩
section
variable {n:Nat} {B:ag} {L:Cells} {k:aJ} {st:aV} {A:du} {K':dK} {e:Bool}
theorem B1 (Z:Base W P) {num:Nat} {K:a8} {sym:Int} (cw:K.length<=100) (q:∀aA e3,Ext B e3->ck.yA aA B->ez e3 aA ⟨num,K,sym,[],[],[],[]⟩->T ⟨W,r+2,E,n⟩ e3 L (bb n k (.ref aA.x::st) A) K'):
  T ⟨W,r+2,E,n⟩ B L (.call e .hj 3::k,.int sym::cS K:: .int (num:Nat)::st,A) K':=fm rfl rfl λ l H z f=>acI Z cw λ aA aa e N y=>by
 have c:∀a,a∈[aA.x,aA.it,aA.bS,aA.c2,aA.re]->H a=none:=λ a b=>by
  simp only [dZ,zm,or_false] at b;rcases b with rfl | rfl | rfl | rfl | rfl
  ·exact N.1
  ·exact N.2
  ·exact N.3
  ·exact N.4
  ·exact N.5
 refine (q aA (pick B aa [aA.x,aA.it,aA.bS,aA.c2,aA.re]) (λ a o h=>BB h (e _ _ (f.1 _ _ h))) ⟨f.1.none N.1,f.1.none N.2,f.1.none N.3,f.1.none N.4,f.1.none N.5,N.6.1,N.6.2⟩ ?_).go z (f.pick _ (λ a o _ h=>e _ _ h) λ a b=> .inr (c a b));obtain ⟨fs,F⟩:=y.1;exact ⟨⟨fs,(p8 (by simp)).trans F.1,F.2⟩,(p8 (by simp)).trans y.2,(p8 (by simp)).trans y.3,(p8 (by simp)).trans y.4,(p8 (by simp)).trans y.5⟩
theorem Gz (Z:Base W P) (O:G.Ok) (x:dS dj g G) (et:Ext dj B) (t:dj aA.x=none) (y:ez B aA S) (d:B it=some (.dict .int (dJ es))) (u:(ar es).Nodup) (v:∀i m,br es i=some m->i<G.N∧m<2^12)
  (q:∀c2 re e3,gw (· =aA.x) B e3->B c2=none->B re=none->ez e3 ⟨aA.x,it,aA.bS,c2,re⟩ ⟨S.num,S.aU,S.sym,es,S.moves,G.dv es,ea (ar (G.dv es))⟩->T ⟨W,r+2,E,n⟩ e3 L (bb n k (.none::st) A) K'):
  T ⟨W,r+2,E,n⟩ B L (.cj e (.o .hj .Ac) 2::k,.ref it:: .ref g:: .ref aA.x::st,A) K':=by
 obtain ⟨fs,F⟩:=y.1;refine mN rfl λ l H z f=>acL Z O x (et.trans f.1) t (y.ext f.1) (f.1 _ _ d) u v λ c2 re aa k1 j p c=> ?_;obtain ⟨ov,s⟩:=c.1;refine (q c2 re (pick B aa [aA.x,c2,re]) (λ a o b h=>BB h ((λ a o b h=>k1 _ _ b (f.1 _ _ h):∀a o,a≠aA.x->B a=some o->aa a=some o) a o b h)) (f.1.none j) (f.1.none p) ⟨⟨ov,(p8 (by simp)).trans s.1,s.2⟩,BB d c.2,BB y.3 c.3,(p8 (by simp)).trans c.4,(p8 (by simp)).trans c.5⟩).go z (f.pick _ (λ a o b h=>k1 _ _ (λ e=>b (by simp [e])) h) λ a b=> ?_)
 simp only [dZ,zm,or_false] at b;rcases b with rfl | rfl | rfl
 ·exact .inl (by rw [F.1];simp)
 ·exact .inr j
 ·exact .inr p
theorem O2 (Z:Base W P) (O:G.Ok) (x:dS B g G) (b:qh B G eX eE nul aT) {K:a8} (d:(ar K).Nodup) (i:∀p∈K,p.1<G.N∧p.2<2^12)
  (q:∀c es,B c=none->c1 G nul aT K es->T ⟨W,r+2,E,n⟩ (B.upd c (.dict .int (dJ es))) L (bb n k (.ref c::st) A) K'):T ⟨W,r+2,E,n⟩ B L (.call e .DN 4::k,.ref eE:: .ref eX::cS K:: .ref g::st,A) K':=
 fm rfl rfl λ l H z f=>abV Z O (x.ext f.1) (b.ext f.1) d i λ c es aa e a h cl=>(q c es (f.1.none a) cl).go z (f.yf e a h)
theorem acT (m:Nat) (Z:Base W P) (O:G.Ok) (x:dS B g G) (b:B it=some (.dict .int (dJ es))) (a:(ar es).Nodup) (d:∀i m,br es i=some m->i<G.N∧m<2^12)
  (q:∀c,T ⟨W,r+2,E,n⟩ B ((m,c,.list ((G.syms es).map λ (X:Nat)=> .tup [.int X,cS (G.goto es X)]))::L) (bb n k (.ref c::st) A) K'):T ⟨W,r+2,E,n⟩ B L (.call e .DO 2::k,.ref it:: .ref g::st,A) K':=
 fm rfl rfl λ l H z f=>OL Z O (x.ext f.1) (f.1 _ _ b) a d λ c aa e a h=>(q c).go z (f.put e m a h)
end
noncomputable abbrev vM (G:au) (aj:b9) (S:SVal):Prop:=jC (c1 G G.bN G.bR S.aU S.items) (S.bP=G.dv S.items) (S.r2=ea (ar S.bP)) (ar S.moves=G.syms S.items) (∀X j,(X,j)∈S.moves->∃T:SVal,aj[j]? =some T∧T.aU=G.goto S.items X)
noncomputable abbrev o7 (G:au) (df:a8->Prop) (aj:b9) (a:Nat):Prop:=eT ((aj.map (·.aU)).Nodup) (∀S∈aj,df S.aU∧fQ G S.aU) (∃S:SVal,aj[0]? =some S∧S.aU=G.dY) (∀(i:Nat) (S:SVal),aj[i]? =some S->S.num=i) (∀(i:Nat) (S:SVal),aj[i]? =some S->a<=i->S.moves=[]) (∀(i:Nat) (S:SVal),aj[i]? =some S->i<a->vM G aj S)
noncomputable abbrev mT (G:au) (df:a8->Prop) (aj:b9) (a:Nat) (S:SVal) (k:Nat):Prop:=eT ((aj.map (·.aU)).Nodup) (∀S∈aj,df S.aU∧fQ G S.aU) (∃S:SVal,aj[0]? =some S∧S.aU=G.dY) (∀(i:Nat) (S:SVal),aj[i]? =some S->S.num=i) (∀(i:Nat) (S:SVal),aj[i]? =some S->a<i->S.moves=[]) (eT (∀(i:Nat) (S:SVal),aj[i]? =some S->i<a->vM G aj S) (aj[a]? =some S) (c1 G G.bN G.bR S.aU S.items) (S.bP=G.dv S.items) (S.r2=ea (ar S.bP)) (A2 (ar S.moves=(G.syms S.items).take k) (∀X j,(X,j)∈S.moves->∃T:SVal,aj[j]? =some T∧T.aU=G.goto S.items X)))
def GA (a:Nat) (aj g8:b9):Prop:=∀(i:Nat) (S:SVal),aj[i]? =some S->∃S':SVal,g8[i]? =some S'∧S'.aU=S.aU∧(i≠a->S'=S)
theorem vM.more (x:vM G aj S) (k:GA a aj g8):vM G g8 S:=
 ⟨x.1,x.2,x.3,x.4,λ X j h=>by
  obtain ⟨T,b⟩:=x.5 X j h;obtain ⟨c,aD⟩:=k j T b.1;exact ⟨c,aD.1,aD.2.1.trans b.2⟩⟩
theorem O3 {S':SVal} (h:aj[a]? =some S) (ao:S'.aU=S.aU):GA a aj (aj.set a S'):=λ i T e=>by
 have c:=(cF.mp h).1
 by_cases b:i=a
 ·subst b;rw [h] at e;cases e;exact ⟨S',hP c,ao,λ h=>absurd rfl h⟩
 ·exact ⟨T,by rw [iS (λ e=>b e.symm)];exact e,rfl,λ _=>rfl⟩
theorem acU {aj:b9} {a:Nat} {T:SVal}:GA a aj (aj++[T]):=λ i S e=>
 ⟨S,by rw [jY (cF.mp e).1];exact e,rfl,λ _=>rfl⟩
theorem yH {S':SVal} (h:aj[a]? =some S) (ao:S'.aU=S.aU):(aj.set a S').map (·.aU)=aj.map (·.aU):=by
 rw [wR,ao];have:(aj.map (·.aU))[a]? =some S.aU:=by rw [ff,h];rfl
 obtain ⟨J,b⟩:=cF.mp this;rw [<- b,DI]
theorem o7.begin (x:o7 G df aj a) (h:aj[a]? =some S) (aI:c1 G G.bN G.bR S.aU es):
  mT G df (aj.set a ⟨S.num,S.aU,S.sym,es,S.moves,G.dv es,ea (ar (G.dv es))⟩) a ⟨S.num,S.aU,S.sym,es,S.moves,G.dv es,ea (ar (G.dv es))⟩ 0:=by
 have g:=(cF.mp h).1;have k:=O3 (S':=⟨S.num,S.aU,S.sym,es,S.moves,G.dv es,ea (ar (G.dv es))⟩) h rfl;have c:∀(i:Nat) (T:SVal),(aj.set a ⟨S.num,S.aU,S.sym,es,S.moves,G.dv es,ea (ar (G.dv es))⟩)[i]? =some T->i≠a->aj[i]? =some T:=λ i T e b=>by rwa [iS (λ e=>b e.symm)] at e
 have l:S.moves=[]:=x.5 a S h (dn _);refine ⟨by rw [yH (S':=⟨S.num,S.aU,S.sym,es,S.moves,G.dv es,ea (ar (G.dv es))⟩) h rfl];exact x.1,λ T d=> ?_,?_,λ i T e=> ?_,λ i T e b=>x.5 i T (c i T e (m7 b)) (bF b),λ i T e b=>(x.6 i T (c i T e (e6 b)) b).more k,hP g,aI,rfl,rfl,by dsimp only;rw [l];rfl,λ X j f=> ?_⟩
 ·rcases wW d with d | rfl
  ·exact x.2 T d
  ·exact x.2 S (cY h)
 ·obtain ⟨T,m⟩:=x.3;obtain ⟨o,n⟩:=k 0 T m.1;exact ⟨o,n.1,n.2.1.trans m.2⟩
 ·by_cases b:i=a
  ·subst b;rw [hP g] at e;cases e;exact x.4 i S h
  ·exact x.4 i T (c i T e b)
 ·dsimp only at f;rw [l] at f;cases f
theorem mT.push {aj:b9} {k:Nat} {T:SVal} (x:mT G df aj a S k) (r:T.aU∉aj.map (·.aU)) (s:df T.aU∧fQ G T.aU) (t:T.num=aj.length) (u:T.moves=[]):mT G df (aj++[T]) a S k:=by
 have m:=(cF.mp x.6.2).1;have g:=acU (aj:=aj) (a:=a) (T:=T);have h:∀(i:Nat) (U:SVal),(aj++[T])[i]? =some U->aj[i]? =some U∨(i=aj.length∧U=T):=λ i U e=>by
  by_cases d:i<aj.length
  ·rw [jY d] at e;exact .inl e
  ·rw [jA (fD d)] at e;have hz:i - aj.length=0:=by
    have:=(cF.mp e).1;simp at this;exact this
   rw [hz] at e;simp only [Jf,DH] at e;exact .inr ⟨dg (ci (.e .p (.k 0)<| .l .q (.a .p .r)<| .g .q .r) rfl hz (sb _ _)) (bD (.l .p .q<| .g .p .q) rfl (fD d)),e.symm⟩
 refine ⟨?_,λ U f=> ?_,?_,λ i U e=> ?_,λ i U e d=> ?_,λ i U e d=> ?_,by rw [jY m];exact x.6.2,x.6.3,x.6.4,x.6.5,x.6.6.1,λ X j v=> ?_⟩
 ·rw [eR,gx];refine ⟨x.1,by simp,λ b w c aI=> ?_⟩
  simp only [fe,kU,b3] at aI;subst aI;rintro rfl;exact r w
 ·rcases c6.mp f with f | f
  ·exact x.2 U f
  ·rw [b3] at f;subst f;exact s
 ·obtain ⟨U,o⟩:=x.3;obtain ⟨l,aD⟩:=g 0 U o.1;exact ⟨l,aD.1,aD.2.1.trans o.2⟩
 ·rcases h i U e with e | ⟨rfl,rfl⟩
  ·exact x.4 i U e
  ·exact t
 ·rcases h i U e with e | ⟨rfl,rfl⟩
  ·exact x.5 i U e d
  ·exact u
 ·rcases h i U e with e | ⟨rfl,rfl⟩
  ·exact (x.6.1 i U e d).more g
  ·exact (fR 0 (bD (.l (.s .p) .q<| .l (.s .q) .p<| .g .o (.k 0) (n:=0)) rfl m d)).elim
 ·obtain ⟨U,p⟩:=x.6.6.2 X j v;obtain ⟨l,q⟩:=g j U p.1;exact ⟨l,q.1,q.2.1.trans p.2⟩
theorem mT.move {k:Nat} (x:mT G df aj a S k) {X j:Nat} {T:SVal} (m:(G.syms S.items)[k]? =some X) (t:aj[j]? =some T) (u:T.aU=G.goto S.items X):
  mT G df (aj.set a {S with moves:=d5 S.moves X j}) a {S with moves:=d5 S.moves X j} (k+1)∧d5 S.moves X j=S.moves++[(X,j)]:=by
 have o:=(cF.mp x.6.2).1;have f:=O3 (S':={S with moves:=d5 S.moves X j}) x.6.2 rfl;have v:X∉ar S.moves:=by
  rw [x.6.6.1];intro h;obtain ⟨i,b,e⟩:=mi h;rw [mj] at b;rw [aip] at e;obtain ⟨J,w⟩:=cF.mp m;exact fR 0 (ci (.l (.s .p) .q<| .f .p .r<| .l .q .r<| .g .o (.k 0) (n:=0)) rfl b ((qF (h₀:=eZ (.l (.s .p) .q<| .l (.s .r) .t<| .l .q .r<| .g (.s .p) .t) rfl b J (oa _ _)) (h₁:=J) (Gn S.items)).mp (e.trans w.symm)) (oa _ _))
 have es:d5 S.moves X j=S.moves++[(X,j)]:=by
  unfold d5;rw [nW.mpr v];rfl
 have g:∀(i:Nat) (T:SVal),(aj.set a {S with moves:=d5 S.moves X j})[i]? =some T->i≠a->aj[i]? =some T:=λ i T e b=>by rwa [iS (λ e=>b e.symm)] at e
 refine ⟨⟨by rw [yH (S':={S with moves:=d5 S.moves X j}) x.6.2 rfl];exact x.1,λ U l=> ?_,?_,λ i U e=> ?_,λ i U e b=>x.5 i U (g i U e (m7 b)) b,λ i U e b=>(x.6.1 i U (g i U e (e6 b)) b).more f,hP o,x.6.3,x.6.4,x.6.5,?_,λ Y i c=> ?_⟩,es⟩
 ·rcases wW l with l | rfl
  ·exact x.2 U l
  ·exact x.2 S (cY x.6.2)
 ·obtain ⟨U,p⟩:=x.3;obtain ⟨d,q⟩:=f 0 U p.1;exact ⟨d,q.1,q.2.1.trans p.2⟩
 ·by_cases b:i=a
  ·subst b;rw [hP o] at e;cases e;exact x.4 i S x.6.2
  ·exact x.4 i U (g i U e b)
 ·dsimp only;rw [es,og,m,<- x.6.6.1];simp [ar]
 ·dsimp only at c;rw [es] at c;rcases c6.mp c with c | c
  ·obtain ⟨U,r⟩:=x.6.6.2 Y i c;obtain ⟨d,s⟩:=f i U r.1;exact ⟨d,s.1,s.2.1.trans r.2⟩
  ·rw [b3] at c;cases c;obtain ⟨d,aD⟩:=f j T t;exact ⟨d,aD.1,aD.2.1.trans u⟩
theorem mT.finish {k:Nat} (x:mT G df aj a S k) (ao:(G.syms S.items).length<=k):o7 G df aj (a+1):=by
 refine ⟨x.1,x.2,x.3,x.4,λ i T e b=>x.5 i T e (uu b),λ i T e b=> ?_⟩
 by_cases h:i=a
 ·subst h;rw [x.6.2] at e;cases e;exact ⟨x.6.3,x.6.4,x.6.5,by rw [x.6.6.1,wY ao],x.6.6.2⟩
 ·exact x.6.1 i T e (sA (bD (.l (.s .p) (.s .q)<| .g .p .q) rfl b) h)
end
section
variable {W:a0} {P:eg} {r:Nat} {E:ag->Prop} {H:ag} {Q:KE} {g:ak} {G:au}
noncomputable def refs (aZ:List ck):aV:=aZ.map λ aA=> .ref aA.x
theorem qo (aZ:List ck):(refs aZ).length=aZ.length:=by simp [refs]
theorem o8 (h:aZ[i]? =some aA):(refs aZ)[i]? =some (.ref aA.x):=by simp [refs,h]
theorem GC (aZ:List ck) (aA:ck):refs (aZ++[aA])=refs aZ++[.ref aA.x]:=by simp [refs]
theorem O4 {σ:ck} (h:aZ[i]? =some aA) (e:σ.x=aA.x):refs (aZ.set i σ)=refs aZ:=by
 unfold refs;rw [wR,e];have:(aZ.map λ aA=>ai.ref aA.x)[i]? =some (.ref aA.x):=by rw [ff,h];rfl
 obtain ⟨J,a⟩:=cF.mp this;rw [<- a,DI]
theorem yI (O:G.Ok) (a:∀p∈es,p.1<G.N):(G.syms es).length<=12:=by
 rw [(yx es).length_eq];exact OJ O a
noncomputable abbrev jP (gq B:ag) (aZ:List ck) (aj:b9):Prop:=gR (Ext gq B) (eM B aZ aj) (∀aA∈aZ,gq aA.x=none∧gq aA.bS=none)
theorem jP.items {aZ:List ck} {aj:b9} (x:jP gq B aZ aj) {i:Nat} {S':SVal} (b:aZ[i]? =some aA) (k:gw (· =aA.x) B en) (y:ez en ⟨aA.x,it,aA.bS,c2,re⟩ S')
  (d:∀σ∈aZ,σ.bS≠it) (f:B c2=none):jP gq en (aZ.set i ⟨aA.x,it,aA.bS,c2,re⟩) (aj.set i S'):=
 have c:=cY b
 ⟨(x.1.but.trans k).toExt λ a e=>e▸(x.3 aA c).1,x.2.setItems b k y d f,λ σ g=>(wW g).elim (x.3 σ) λ e=>e▸x.3 aA c⟩
theorem jP.moves {aj:b9} (x:jP gq B aZ aj) {i:Nat} (a:aZ[i]? =some aA) (b:aj[i]? =some S) (bS:a8):jP gq (B.upd aA.bS (.dict .int (dJ bS))) aZ (aj.set i {S with moves:=bS}):=
 ⟨x.1.upd (x.3 aA (cY a)).2,x.2.OX a b bS,x.3⟩
theorem jP.push {aZ:List ck} {aj:b9} (x:jP gq B aZ aj) (e:Ext B en) (n:ck.yA aA B) (y:ez en aA S):jP gq en (aZ++[aA]) (aj++[S]):=
 ⟨x.1.trans e,x.2.push e n y,λ σ a=>(c6.mp a).elim (x.3 σ) λ h=>b3.mp h▸⟨x.1.none n.1,x.1.none n.3⟩⟩
theorem jP.more (x:jP gq B aZ aj) (e:Ext B en):jP gq en aZ aj:=⟨x.1.trans e,x.2.ext e,x.3⟩
theorem B2 (B:ag):eM B [] []:=⟨rfl,λ i aA S h _=>by simp at h,.nil,.nil,λ aA h=>by cases h⟩
theorem acW (O:G.Ok) (F:B0 G df):o7 G df [⟨0,G.dY,-1,[],[],[],[]⟩] 0:=by
 refine ⟨by simp,λ S h=> ?_,⟨_,rfl,rfl⟩,λ i S h=> ?_,λ i S h _=> ?_,λ i S h a=>absurd a (wy _)⟩
 ·rw [b3] at h;subst h;exact ⟨F.start,o4 O⟩
 ·cases i with
  | zero=>simp at h;subst h;rfl
  | succ i=>simp at h
 ·cases i with
  | zero=>simp at h;subst h;rfl
  | succ i=>simp at h
theorem mT.GD {k:Nat} (O:G.Ok) (C:mT G df aj a S k):S.moves.length<=12:=by
 have w:=congrArg gz C.6.6.1;rw [f3,mj] at w;exact w▸bB (wu _ _) (yI O λ p b=>(C.6.3.4 p.1 p.2 (ew C.6.3.1 b)).1)
theorem acX (F:B0 G df) (a:(aj.map (·.aU)).Nodup) (h:∀S∈aj,df S.aU) {K:a8} (cw:df K) (d:K∉aj.map (·.aU)):aj.length<1999:=by
 have:=F.bound (aj.map (·.aU)++[K]) (gx.mpr ⟨a,by simp,λ b e c aI=>by rw [b3] at aI;subst aI;rintro rfl;exact d e⟩) λ L f=>by
  rcases c6.mp f with h' | h'
  ·obtain ⟨U,g,rfl⟩:=bH.mp h';exact h U g
  ·rw [b3] at h';subst h';exact cw
 rw [cI,cz] at this;exact sC this
section
variable {n:Nat} {B:ag} {L:Cells} {k:aJ} {st:aV} {A:du} {K':dK} {e:Bool}
theorem O5 (Z:Base W P) (O:G.Ok) (x:dS B g G) (q:∀c,B c=none->T ⟨W,r+3,E,n⟩ (B.upd c (.list (bools G.bN))) L (bb n k (.ref c::st) A) K'):T ⟨W,r+3,E,n⟩ B L (.call e .DL 1::k,.ref g::st,A) K':=
 fm rfl rfl λ l H1 z f=>OA Z O (x.ext f.1) λ c b e a h=>(q c (f.1.none a)).go z (f.yf e a h)
theorem O6 (Z:Base W P) (O:G.Ok) (x:dS B g G) (q:∀c,B c=none->T ⟨W,r+4,E,n⟩ (B.upd c (.list (nats G.bR))) L (bb n k (.ref c::st) A) K'):T ⟨W,r+4,E,n⟩ B L (.call e .DM 1::k,.ref g::st,A) K':=
 fm rfl rfl λ l H1 z f=>acw Z O (x.ext f.1) λ c b e a h=>(q c (f.1.none a)).go z (f.yf e a h)
theorem O7 (Z:Base W P) (O:G.Ok) (x:dS B g G) (q:T ⟨W,r+2,E,n⟩ B L (bb n k (cS G.dY::st) A) K'):T ⟨W,r+2,E,n⟩ B L (.call e .DP 1::k,.ref g::st,A) K':=
 fm rfl rfl λ l H1 z f=>acN Z O (x.ext f.1) λ a e=>q.go z (f.more e)
theorem O8 (O:G.Ok) (J:B eX=none) (b:(B.upd eX (.list (bools G.bN))) eE=none):qh ((B.upd eX (.list (bools G.bN))).upd eE (.list (nats G.bR))) G eX eE G.bN G.bR:=
 have a:=OD O
 ⟨(Ext.new b) _ _ (ag.fL ..),ag.fL ..,Oq O,a.1,a.2⟩
end
theorem acY (Z:Base W P) (O:G.Ok) (x:dS H g G) (F:B0 G df)
  (q:∀a aZ aj aa,Ext H aa->o5 aa a aZ->eM aa aZ aj->o7 G df aj aj.length->Q (.ref a) aa):dw W (r+5) .Jn [.ref g] H Q E:=by
 refine Zt Z (fN 11 rfl<|O5 Z O x λ eX J=>O6 Z O (x.ext (.new J)) λ eE Y=> ?_);have yK:=O8 O J Y;have L:=(Ext.new J).trans (Ext.new (o:= .list (nats G.bR)) Y);have c:=x.ext L;generalize (H.upd eX (.list (bools G.bN))).upd eE (.list (nats G.bR))=p at yK L c ⊢;refine O7 Z O c<|B1 (num:=0) (K:=G.dY) (sym:= -1) Z (by simp [au.dY]) λ Pa acZ cB GF nV=>fw 4 rfl λ cZ=>lh 5 BY λ t=> ?_
 refine nV.1.elim λ fs f=> ?_;refine d4 (i:=0) (rc 4 rfl) (by decide) rfl<|bO (aL f.1) rfl f.2.2.1<|F1 5 rfl (BZ _)<|rS [4,5] [0,1,2,3,4,5,6] (cQ:=λ s:ag×List ck×b9×Nat=>s.1) (cR:=λ s=>[(4,cZ,.list (refs s.2.1)),(5,t,.dict BY (mS (s.2.2.1.map (·.aU))))]) (lf:=λ s=>[(0,.ref g),(1,.int 2000),(2,.ref eX),(3,.ref eE),(4,.ref cZ),(5,.ref t),(6,.int (s.2.2.2:Nat))])
  (λ n s=>n=2000 - s.2.2.2∧s.2.2.2<=s.2.2.1.length∧jP p s.1 s.2.1 s.2.2.1∧o7 G df s.2.2.1 s.2.2.2) 2000 (acZ,[Pa],[⟨0,G.dY,-1,[],[],[],[]⟩],0) rfl rfl rfl ⟨rfl,dz _,jP.push (aZ:=[]) (aj:=[]) ⟨Ext.refl p,B2 p,λ _ h=>hQ h⟩ cB GF nV,acW O F⟩ λ n s K' I b1 j8 _=> ?_
 have bound:s.2.2.1.length<2000:=by
  have:=F.bound _ I.2.2.2.1 λ K h=>by
   obtain ⟨S,b7,rfl⟩:=bH.mp h;exact (I.2.2.2.2 S b7).1
  rwa [cz] at this
 have w:=I.2.2.1.2.1;refine iN (rc 4 rfl) (qo _) (by unfold lim;exact bF (bX (a9 (bE w) bound) (by decide)))<|fv (λ bK=> ?_) λ bK=>j8 (fm rfl rfl λ l ac0 z f=>O0 Z (f.get 4 rfl) λ GG B3 qn _ A=> ?_)
 rotate_left
 ·have aB:s.2.2.2=s.2.2.1.length:=dg I.2.1 (fD λ q=>bK (hx.mpr (bx q (bE w.symm))));exact q GG s.2.1 s.2.2.1 B3 (λ a o h=>qn _ _ (f.1 _ _ (I.2.2.1.1 _ _ (L _ _ h)))) A ((I.2.2.1.2.ext f.1).ext qn) (aB▸I.2.2.2)
 have bK:s.2.2.2<s.2.2.1.length:=bx (hx.mp bK) (bE w);obtain ⟨aA,S,b⟩:=I.2.2.1.2.get bK;refine b.2.2.1.1.elim λ fs f=> ?_;have M:=I.2.2.2.2 S (cY b.2.1);refine d4 (rc 4 rfl) (bX (bX bK bound) (by decide)) (o8 b.1)<|p9 (aL f.1)<|bO (aL f.1) rfl f.2.2.1<|O2 Z O (c.ext I.2.2.1.1) (yK.ext I.2.2.1.1) M.2.nodup M.2.2 λ it es hit cl=> ?_
 have N:Ext s.1 (s.1.upd it (.dict .int (dJ es))):= .new hit;refine Gz Z O c (I.2.2.1.1.trans N) (I.2.2.1.3 aA b.2.2.2).1 (b.2.2.1.ext N) (ag.fL ..) cl.1 cl.4 λ c2 re GI vN h7 _ R=> ?_;have Pb:=(I.2.2.1.more N).items b.1 vN R (λ σ h e=>(I.2.2.1.2.tI h).elim λ T z=>by have:=z.3;rw [e,hit] at this;cases this) h7
 refine R.1.elim λ fs f=> ?_;refine bO (aL f.1) rfl f.2.2.2.2.2.1<|acT 9 Z O (c.ext Pb.1) R.2 cl.1 cl.4 λ hK=>eL (ys:=G.syms es) (c0:=λ X:Nat=> .tup [.int X,cS (G.goto es X)]) [4,5,9] [0,1,2,3,4,5,6,7] (cQ:=λ _ (u:ag×List ck×b9×SVal)=>u.1) (cR:=λ _ u=>[(4,cZ,.list (refs u.2.1)),(5,t,.dict BY (mS (u.2.2.1.map (·.aU)))),(9,hK,.list ((G.syms es).map λ (X:Nat)=> .tup [.int X,cS (G.goto es X)]))]) (lf:=λ _ _=>[(0,.ref g),(1,.int 2000),(2,.ref eX),(3,.ref eE),(4,.ref cZ),(5,.ref t),(6,.int (s.2.2.2:Nat)),(7,.ref aA.x)])
  (λ d _ u=>jP p u.1 u.2.1 u.2.2.1∧mT G df u.2.2.1 s.2.2.2 u.2.2.2 d.length∧u.2.2.2.items=es∧u.2.1[s.2.2.2]? =some ⟨aA.x,it,aA.bS,c2,re⟩∧s.2.2.2<u.2.2.1.length) (GI,s.2.1.set s.2.2.2 ⟨aA.x,it,aA.bS,c2,re⟩,s.2.2.1.set s.2.2.2 _,⟨S.num,S.aU,S.sym,es,S.moves,G.dv es,ea (ar (G.dv es))⟩) (li (rc 9 rfl) λ _ _=>rc 9 rfl) rfl (by dsimp only;rw [O4 (σ:=⟨aA.x,it,aA.bS,c2,re⟩) b.1 rfl,yH (S':=⟨S.num,S.aU,S.sym,es,S.moves,G.dv es,ea (ar (G.dv es))⟩) b.2.1 rfl];rfl) rfl ⟨Pb,(I.2.2.2.begin b.2.1 cl),rfl,(hP (bx bK (bE w.symm)):(s.2.1.set s.2.2.2 ⟨aA.x,it,aA.bS,c2,re⟩)[s.2.2.2]? =some ⟨aA.x,it,aA.bS,c2,re⟩),by rw [je];exact bK⟩ (λ d X e u cV hd aK d0 _=>⟨_,rfl,?_⟩) λ u aK=> ?_
 ·have B4:(G.syms u.2.2.2.items)[d.length]? =some X:=by rw [aK.2.2.1,hd,jA (dn _),qM];rfl
  have B5:X∈G.syms es:=by rw [hd];simp
  have Pc:=aK.1.2.2 _ _ _ aK.2.2.2.1 aK.2.1.6.2;refine Pc.1.elim λ fs f=> ?_;have ac1:=aK.2.1.GD O;have D:=OZ _ aK.2.1.1 (G.goto es X);have U:=aK.1.2.1;have mR:(dJ u.2.2.2.moves).length<lim:=by rw [j7];unfold lim;exact a9 ac1 (by decide)
  refine rP (rc 5 rfl) rfl ?_
  by_cases k:G.goto es X∈u.2.2.1.map (·.aU)
  ·obtain ⟨j,aO,e⟩:=mi k;have vK:j<u.2.2.1.length:=by rwa [cz] at aO
   have cv:=c4 vK;have Pd:(u.2.2.1[j]).aU=G.goto es X:=by rw [<- e,sD]
   have C:=aK.2.1.move (X:=X) (j:=j) B4 cv (by rw [Pd,aK.2.2.1])
   refine tB (v:= .int (j:Nat)) (rc 5 rfl) (BZ _) (by rw [D.2 j (by rw [ff,cv,<- Pd];rfl)];rfl)<|nQ (by simp)<|bO (aL f.1) rfl f.2.2.2.2.2.2.1<|BI Pc.3 ⟨_,rfl⟩ mR (qg ..)<|cK (d0 (_,u.2.1,_,{u.2.2.2 with moves:=d5 u.2.2.2.moves X j}) ⟨aK.1.moves aK.2.2.2.1 aK.2.1.6.2 _,by rw [cI];exact C.1,aK.2.2.1,aK.2.2.2.1,by rw [je];exact aK.2.2.2.2⟩) (by dsimp only;rw [yH (S':={u.2.2.2 with moves:=d5 u.2.2.2.moves X j}) aK.2.1.6.2 rfl];rfl) rfl
  ·have Pe:df (G.goto es X):=F.goto S.aU es M.1 cl X B5;have y:=acX F aK.2.1.1 (λ S h=>(aK.2.1.2 S h).1) Pe k;have gO:=Gy cl X;refine tB (v:= .int (-1)) (rc 5 rfl) (BZ _) (by rw [D.1 k];rfl)<|tA (by decide)<|iN (rc 4 rfl) ((qo _).trans U) (by unfold lim;exact bF (bX y (by decide)))<|fv (λ h=>absurd ((mf (m:=2000)).mp h) (I4 (bX y (by decide)))) λ _=>oU (fs:=mS (u.2.2.1.map (·.aU)++[G.goto es X])) 5 rfl (BZ _) (by rw [acS,cz];unfold lim;exact bX y (by decide)) (by have:=acR aK.2.1.1 k;rw [cz] at this;exact this)<|fl (rc 4 rfl) rfl<|B1 Z (by have:=gO.len O;exact bF (a9 this (by decide))) λ σ ajH pM nn sn=> ?_
   have Pf:=aK.1.push pM nn sn;have B:=aK.2.1.push (T:=⟨u.2.2.1.length,G.goto es X,(X:Nat),[],[],[],[]⟩) k ⟨Pe,gO⟩ rfl rfl;have C:=B.move (X:=X) (j:=u.2.2.1.length) (T:=⟨u.2.2.1.length,G.goto es X,(X:Nat),[],[],[],[]⟩) B4 (by simp) (by rw [aK.2.2.1])
   have V:(u.2.1++[σ])[s.2.2.2]? =some ⟨aA.x,it,aA.bS,c2,re⟩:=by rw [jY (bx aK.2.2.2.2 (bE U.symm))];exact aK.2.2.2.1
   have Pg:=Pf.2.2 _ _ _ V B.6.2;refine Pg.1.elim λ fs f=> ?_;exact g0 4 rfl (by rw [qo];unfold lim;exact bX (a9 (bE U) y) (by decide)) (GC _ σ).symm<|bO (aL f.1) rfl f.2.2.2.2.2.2.1<|BI Pg.3 ⟨_,rfl⟩ mR (qg ..)<|cK (d0 (_,u.2.1++[σ],_,{u.2.2.2 with moves:=d5 u.2.2.2.moves X u.2.2.1.length}) ⟨Pf.moves V B.6.2 _,by rw [cI];exact C.1,aK.2.2.1,V,by rw [je,cI];exact ahT aK.2.2.2.2⟩) (by dsimp only;rw [yH (S':={u.2.2.2 with moves:=d5 u.2.2.2.moves X u.2.2.1.length}) B.6.2 rfl,eR];rfl) rfl
 ·exact cK (b1 (2000 - (s.2.2.2+1)) (u.1,u.2.1,u.2.2.1,s.2.2.2+1) (by have:=I.1;exact eZ (.f .p .q<| .l (.a .r (.s .t)) (.k 2000)<| .l (.k 2000) (.a .q .t)<| .g (.s .r) .p) rfl I.1 (bE (ef (bD (.l (.s .p) (.k 2000)<| .l (.s .q) .p<| .g (.s .q) (.k 2000)) rfl bound bK))) (sb _ _)) ⟨rfl,aK.2.2.2.2,aK.1,aK.2.1.finish (by rw [aK.2.2.1];exact dn _)⟩) rfl rfl
end
section
variable {W:a0} {P:eg} {r:Nat} {E:ag->Prop} {H:ag} {Q:KE} {g:ak} {G:au}
noncomputable def ja (m:Nat):aw:=(cg 12).filter m.testBit
theorem ac2 (b:a<=12) (h:m/2^a=0):(cg a).filter m.testBit=ja m:=by
 unfold ja;rw [show 12=a+(12 - a) by exact dg (bD (.l (.k 12) (.a .p .q)<| .g (.k 12) (.a .q .p)) rfl (sb _ _)) (bD (.l (.a .p .q) (.k 12)<| .g (.a .q .p) (.k 12)) rfl (bE (ef (ct (.l .p (.k 12)<| .g .p (.k 12)) rfl b)))),List.range_add,pD]
 refine (List.append_right_eq_self.mpr (Je.mpr λ τ c=> ?_)).symm;obtain ⟨i,_,rfl⟩:=bH.mp c;rw [w0 (bx ((Nat.div_eq_zero_iff.mp h).elim (λ h=>absurd h (m7 (Nat.two_pow_pos a))) id:m<2^a) (zY (by decide) (fJ ..)))]
 decide
theorem ac3 (m a:Nat):(m/2^a)&&&1=if m.testBit a then 1 else 0:=by
 rw [Nat.and_one_is_mod,Nat.testBit,Nat.shiftRight_eq_div_pow,Nat.one_and_eq_mod_two];rcases Nat.mod_two_eq_zero_or_one (m/2^a) with h | h<;>rw [h]<;>rfl
theorem ac4 (Z:Base W P) (d:m<2^12) (q:∀c aa,Ext H aa->H c=none->aa c=some (.list (nats (ja m)))->Q (.ref c) aa):dw W (r+1) .bits [.int (m:Nat)] H Q E:=by
 refine Zl Z (fN 4 rfl<|fw 1 rfl λ c=>rS [1] [1,2,3] (cQ:=λ _=>H) (cR:=λ a:Nat=>[(1,c,.list (nats ((cg a).filter m.testBit)))]) (lf:=λ a=>[(1,.ref c),(2,.int (a:Nat)),(3,.int (m/2^a:Nat))])
  (λ n a=>n=m/2^a∧a<=12) m 0 rfl rfl (by rw [show m/2^0=m from Nat.div_one m];rfl) ⟨by simp,by decide⟩ λ n a K' I g i _=>fv (λ h=> ?_) λ h=>i (e9 λ aa f=>q c aa f.1 (f.2 1 _ _ rfl) ((f.get 1 rfl).trans (by rw [ac2 I.2 (Nat.eq_zero_of_not_pos λ q=>h (aiq.mpr q))]))))
 have j:a<12:=sA I.2 λ e=>by subst e;rw [IK d] at h;exact absurd h (by decide)
 have b:m/2^(a+1)=m/2^a/2:=by rw [ahm,SK]
 have E:=g (m/2^(a+1)) (a+1) (by rw [I.1,b];exact Nat.div_lt_self (aiq.mp h) (by decide)) ⟨rfl,j⟩
 rw [wX,pD,b] at E;refine abh ?_;rw [ac3];cases b8:m.testBit a with
 | true=>
  rw [show [a].filter m.testBit=[a] by simp [b8]] at E
  exact tA rfl<|fl (rc 1 rfl) rfl<|g0 1 rfl (by rw [eu];unfold lim;exact a9 (bB (qN ..) (by rw [gy];exact I.2):((cg a).filter m.testBit).length<=12) (by decide)) (lg _ [_]).symm<|NS<|cK E rfl rfl
 | false=>
  rw [show [a].filter m.testBit=[] by simp [b8],h9] at E
  exact nQ rfl<|NS<|cK E rfl rfl
end
section
variable {W:a0} {P:eg} {r:Nat} {E:ag->Prop} {H:ag} {Q:KE} {g:ak} {G:au}
noncomputable def yL (M:List (Nat×aw)) (k v:Nat):List (Nat×aw):=if k∈M.map (·.1) then M.map λ p=>if p.1=k then (p.1,p.2++[v]) else p else M++[(k,[v])]
noncomputable def c0 (M:List (Nat×aw)):List (ai×aV):=M.map λ p=>(.int p.1,nats p.2)
theorem Ph (M:List (Nat×aw)):(c0 M).map (·.1)=nats (M.map (·.1)):=by simp [c0,nats]
theorem ac5 (M:List (Nat×aw)) (k v:Nat):lu (c0 M) (.int (k:Nat)) (.int (v:Nat))=c0 (yL M k v):=by
 unfold lu yL;rw [Ph]
 by_cases h:k∈M.map (·.1)
 ·rw [if_pos (BV.mpr h),if_pos h];unfold c0;rw [e5,e5];refine kf λ p _=> ?_;simp only [wU]
  by_cases e:p.1=k
  ·simp [e,nats]
  ·rw [if_neg (λ a=>e (fU (ai.int.inj a)):¬(ai.int (p.1:Nat)=ai.int (k:Nat))),if_neg e]
 ·rw [if_neg (λ h'=>h (BV.mp h')),if_neg h];simp [c0,nats]
noncomputable def js (L:a8):List (Nat×aw):=L.foldl (λ M p=>yL M p.1 p.2) []
theorem Pj (L:a8) (p:Nat×Nat):js (L++[p])=yL (js L) p.1 p.2:=by unfold js;rw [ki];rfl
theorem yM:∀(L:a8),((js L).map (·.1)).Nodup∧(∀k,k∈(js L).map (·.1)↔k∈L.map (·.1))∧∀p∈js L,p.2=(L.filter λ q=>q.1=p.1).map (·.2):=by
 refine lq ⟨.nil,λ k=>Iff.rfl,λ p h=>by cases h⟩ λ L p ih=> ?_
 (rewrite [Pj];try (with_reducible rfl))
 unfold yL
 by_cases h:p.1∈(js L).map (·.1)
 ·(rewrite [if_pos h];try (with_reducible rfl))
  have e:((js L).map λ q=>if q.1=p.1 then (q.1,q.2++[p.2]) else q).map (·.1)=(js L).map (·.1):=by
   (rewrite [e5];try (with_reducible rfl));refine kf λ q _=> ?_
   simp only [wU];split<;>rfl
  refine ⟨by (rewrite [e];try (with_reducible rfl));exact ih.1,λ k=> ?_,λ q c=> ?_⟩
  ·(rewrite [e,ih.2.1,eR,c6];try (with_reducible rfl))
   refine ⟨.inl,λ h'=>h'.elim id λ h'=> ?_⟩;simp at h';subst h';exact (ih.2.1 _).mp h
  ·obtain ⟨z,hz,rfl⟩:=bH.mp c;have:=ih.2.2 z hz
   by_cases e:z.1=p.1
   ·(rewrite [if_pos e];try (with_reducible rfl));dsimp only
    (rewrite [this,pD,eR];try (with_reducible rfl))
    simp [e]
   ·(rewrite [if_neg e,this,pD,eR];try (with_reducible rfl))
    have:¬p.1=z.1:=λ h=>e h.symm;simp [this]
 ·(rewrite [if_neg h];try (with_reducible rfl))
  refine ⟨?_,λ k=> ?_,λ q c=> ?_⟩
  ·(rewrite [eR,gx];try (with_reducible rfl))
   exact ⟨ih.1,by simp,λ a f b d=>by simp at d;subst d;rintro rfl;exact h f⟩
  ·(rewrite [eR,eR,c6,c6,ih.2.1];try (with_reducible rfl));rfl
  ·rcases c6.mp c with c | c
   ·have e:¬p.1=q.1:=λ e=>h (e▸bH.mpr ⟨q,c,rfl⟩)
    (rewrite [ih.2.2 q c,pD,eR];try (with_reducible rfl))
    simp [e]
   ·rewrite [b3] at c;subst c;dsimp only
    (rewrite [pD,Je.mpr λ z hz=> ?_];try (with_reducible rfl))
    ·simp
    ·simp only [decide_eq_true_eq];intro e;exact h ((ih.2.1 _).mpr (bH.mpr ⟨z,hz,e⟩))
noncomputable def jt (ms:a8) (rs:aw):a8:=rs.flatMap λ i=>(ja ((br ms i).getD 0)).map λ τ=>(τ,i)
noncomputable def qp (ms:a8):a8:=jt ms (ea (ar ms))
theorem mU (l:aw):(ea l).Perm l:=Df _ _
theorem Pk (a:m<2^12):τ∈ja m↔m.testBit τ=true:=by
 unfold ja;rw [kS,fK];refine ⟨λ h=>h.2,λ h=>⟨?_,h⟩⟩;rcases pv τ 12 with h' | h'
 ·exact h'
 ·rw [w0 (bx a (zY (by decide) h'))] at h;cases h
theorem yN {ms:a8} (c:∀p∈ms,p.2<2^12) {rs:aw} {τ i:Nat}:(τ,i)∈jt ms rs↔i∈rs∧((br ms i).getD 0).testBit τ=true:=by
 have bK:∀i,(br ms i).getD 0<2^12:=λ i=>by
  cases h:br ms i with
  | none=>decide
  | some m=>exact c _ (g4 h)
 unfold jt;rw [nf];constructor
 ·rintro ⟨a,b,h⟩;obtain ⟨t,b8,e⟩:=bH.mp h;cases e;exact ⟨b,(Pk (bK i)).mp b8⟩
 ·rintro ⟨b,h⟩;exact ⟨i,b,bH.mpr ⟨τ,(Pk (bK i)).mpr h,rfl⟩⟩
theorem GL (m:Nat):(ja m).length<=12:=by
 have:=qN m.testBit (cg 12);simp at this;exact this
theorem Pl (ms:a8) (rs:aw):(jt ms rs).length<=rs.length*12:=by
 unfold jt
 induction rs with
 | nil=>simp
 | cons a rs ih=>
  rw [zZ,cI,cz,f7,zX];exact ci (.l .p (.w 12 .q)<| .l .r (.k 12)<| .g (.a .r .p) (.a (.w 12 .q) (.k 12))) rfl ih (GL ((br ms a).getD 0))
noncomputable def jQ (ms:a8) (τ:Nat):aw:=((qp ms).filter λ q=>q.1=τ).map (·.2)
noncomputable def n0 (ms:a8):aw:=ea ((js (qp ms)).map (·.1))
noncomputable def n1 (bS ms:a8) (τ:Nat):Bool:=decide (1<(jQ ms τ).length∨τ∈ar bS)
noncomputable def qq (bS ms:a8):List (Nat×aw):=((n0 ms).filter (n1 bS ms)).map λ τ=>(τ,jQ ms τ)
noncomputable def j9 (M:List (Nat×aw)):List (ai×ai):=M.map λ p=>(.int p.1,.tup (nats p.2))
theorem GM (ms:a8):(n0 ms).Nodup:=(mU _).nodup_iff.mpr (yM _).1
theorem Pm {ms:a8} {τ:Nat}:τ∈n0 ms↔τ∈(qp ms).map (·.1):=(mU _).mem_iff.trans ((yM _).2.1 τ)
def tL (S:SVal):Prop:=hi λ τ i m=>br S.bP i=some m∧m.testBit τ=true∧((dB λ j a=>j≠i∧br S.bP j=some a∧a.testBit τ=true)∨τ∈ar S.moves)
theorem ac6 (A:(ar S.bP).Nodup) (k:∀p∈S.bP,p.2<2^12):qq S.moves S.bP=[]↔¬tL S:=by
 have s:∀i τ,((br S.bP i).getD 0).testBit τ=true->∃m,br S.bP i=some m∧m.testBit τ=true:=λ i τ h=>by
  cases e:br S.bP i with
  | none=>rw [e] at h;simp at h
  | some m=>rw [e] at h;exact ⟨m,rfl,h⟩
 have o:∀τ i,i∈jQ S.bP τ↔∃m,br S.bP i=some m∧m.testBit τ=true:=λ τ i=>by
  unfold jQ;rw [bH];constructor
  ·rintro ⟨q,f,rfl⟩;rw [kS] at f;obtain ⟨B,r⟩:=f;have r:=of_decide_eq_true r;subst r;exact s _ _ ((yN k).mp B).2
  ·rintro ⟨m,J,g⟩;refine ⟨(τ,i),kS.mpr ⟨(yN k).mpr ⟨(mU _).mem_iff.mpr (ey.mp (by rw [J];rfl)),by rw [J];exact g⟩,by simp⟩,rfl⟩
 have C:∀τ,(jQ S.bP τ).Nodup:=λ τ=>by
  have ao:(ea (ar S.bP)).Nodup:=(mU _).nodup_iff.mpr A;unfold jQ qp;generalize ea (ar S.bP)=ks at ao
  induction ks with
  | nil=>simp [jt]
  | cons a ks ih=>
   rw [kP] at ao;have:jt S.bP (a::ks)=(ja ((br S.bP a).getD 0)).map (λ τ=>(τ,a))++jt S.bP ks:=by unfold jt;rw [zZ]
   rw [this,pD,eR,gx];refine ⟨?_,ih ao.2,λ x D y E=> ?_⟩
   ·rw [List.filter_map,e5];have:((λ q:Nat×Nat=>decide (q.1=τ))∘λ τ=>(τ,a))=λ t=>decide (t=τ):=rfl;rw [this];have J:((ja ((br S.bP a).getD 0)).filter λ t=>decide (t=τ)).length<=1:=by
     rw [<- List.countP_eq_length_filter];have:=List.nodup_iff_count.mp (IL _ C9:(ja ((br S.bP a).getD 0)).Nodup) τ;rw [List.count] at this;refine bB (bE ?_) this;refine List.countP_congr λ x _=> ?_;simp
    rcases Jm J with h | ⟨b,h⟩<;>rw [h]<;>simp
   ·obtain ⟨q,f,rfl⟩:=bH.mp D;obtain ⟨u,F,rfl⟩:=bH.mp E;obtain ⟨t,_,rfl⟩:=bH.mp (kS.mp f).1;have:=((yN (ms:=S.bP) k (τ:=u.1) (i:=u.2)).mp (kS.mp F).1).1;rintro e;dsimp only at e;exact ao.1 (e▸this)
 have v:∀τ,τ∈n0 S.bP↔dB λ i m=>br S.bP i=some m∧m.testBit τ=true:=λ τ=>by
  rw [Pm,bH];constructor
  ·rintro ⟨q,f,rfl⟩;obtain ⟨m,h⟩:=s _ _ ((yN (ms:=S.bP) k (τ:=q.1) (i:=q.2)).mp f).2;exact ⟨q.2,m,h⟩
  ·rintro ⟨i,m,J,g⟩;exact ⟨(τ,i),(yN k).mpr ⟨(mU _).mem_iff.mpr (ey.mp (by rw [J];rfl)),by rw [J];exact g⟩,rfl⟩
 unfold qq;rw [Jc,Je];constructor
 ·rintro h ⟨τ,i,m,J,g,d⟩;refine h τ ((v τ).mpr ⟨i,m,J,g⟩) (decide_eq_true ?_);rcases d with ⟨j,G,H,I,K⟩ | d
  ·refine .inl ?_;have a:=(o τ i).mpr ⟨m,J,g⟩;have b:=(o τ j).mpr ⟨G,I,K⟩;rcases pv 1 (jQ S.bP τ).length with h | h
   ·exact h
   ·rcases Jm h with e | ⟨c,e⟩
    ·rw [e] at a;exact hQ a
    ·rw [e] at a b;simp at a b;exact absurd (b.trans a.symm) H
  ·exact .inr d
 ·intro h τ L M;obtain ⟨i,m,w⟩:=(v τ).mp L;rcases of_decide_eq_true M with d | d
  ·refine (TH d).elim λ a b l e=> ?_
   ·have n:=C τ;rw [e,kP] at n;obtain ⟨N,z⟩:=(o τ a).mp (by rw [e];simp)
    obtain ⟨O,aD⟩:=(o τ b).mp (by rw [e];simp)
    exact h ⟨τ,a,N,z.1,z.2,.inl ⟨b,O,λ P=>n.1 (P▸IV ..),aD.1,aD.2⟩⟩
  ·exact h ⟨τ,i,m,w.1,w.2,.inr d⟩
end
section
variable {W:a0} {P:eg} {r:Nat} {E:ag->Prop} {H:ag} {Q:KE} {g:ak} {G:au}
theorem ajI (M:List (Nat×aw)):(j9 M).map (·.1)=nats (M.map (·.1)):=by simp [j9,nats]
theorem ac9 {M:List (Nat×aw)} {k:Nat}:(k∉M.map (·.1)->cU (j9 M) (.int (k:Nat))=none):=λ h=>by
 unfold cU;have:(j9 M).find? (λ e=>decide (e.1=ai.int (k:Nat)))=none:=by
  rw [ahp];intro x a;obtain ⟨p,b,rfl⟩:=bH.mp a;simp only [decide_eq_true_eq];intro e;injection e with e;exact h (fU e▸bH.mpr ⟨p,b,rfl⟩)
 rw [this];rfl
theorem ada {M:List (Nat×aw)} (a:(M.map (·.1)).Nodup) {p:Nat×aw} (h:p∈M):cU (j9 M) (.int (p.1:Nat))=some (.tup (nats p.2)):=by
 induction M with
 | nil=>cases h
 | cons z M ih=>
  rw [fe,kP] at a;unfold cU j9 at ih ⊢;rw [fe,C1];rcases dZ.mp h with rfl | h
  ·simp
  ·have:¬(ai.int (z.1:Nat)=ai.int (p.1:Nat)):=λ e=>by
    injection e with e;exact a.1 (fU e▸bH.mpr ⟨p,h,rfl⟩)
   simp only [this,decide_false];exact ih a.2 h
theorem Pp (L:a8):∀p∈js L,p.2.length<=L.length:=λ p a=>by
 rw [(yM L).2.2 p a,cz];exact qN ..
theorem Pq {L:a8} (h:∀p∈L,p.1∈ja ((br bP p.2).getD 0)):(js L).length<=12:=by
 have b:=yM L;have:=jM 12 _ b.1 λ a c=>by
  obtain ⟨x,d,rfl⟩:=bH.mp ((b.2.1 a).mp c);exact fK.mp (kS.mp (h x d)).1
 rwa [cz] at this
theorem Pr {rs:aw}:∀p∈jt bP rs,p.1∈ja ((br bP p.2).getD 0):=λ p a=>by
 obtain ⟨z,_,h⟩:=nf.mp a;obtain ⟨t,b8,e⟩:=bH.mp h;cases e;exact b8
theorem adb {M:List (Nat×aw)} (h:g7 D=c0 M):D.length=M.length:=by
 simpa [g7,c0] using (congrArg gz h)
theorem ade {M:List (Nat×aw)} {k b:Nat} {cx:ai} {a:ak} (h:g7 D=c0 M) (c:∀p∈M,p.2.length<=b) (d:(cx,a,vs)∈D):vs.length<=b:=by
 have:(cx,vs)∈g7 D:=bH.mpr ⟨_,d,rfl⟩;rw [h] at this;obtain ⟨z,hz,e⟩:=bH.mp this;cases e;rw [eu];exact c z hz
theorem Pt {moves:a8} {d e:aw} (h:n0 bP=d++τ::e) (a:n1 moves bP τ=true):hk (j9 ((d.filter (n1 moves bP)).map λ τ=>(τ,jQ bP τ))) (.int (τ:Nat)) (.tup (nats (jQ bP τ)))=j9 (((d++[τ]).filter (n1 moves bP)).map λ τ=>(τ,jQ bP τ)):=by
 have b:τ∉((d.filter (n1 moves bP)).map λ τ=>(τ,jQ bP τ)).map (·.1):=λ h'=>by
  rw [e5] at h';obtain ⟨z,hz,rfl⟩:=bH.mp h';have:=GM bP;rw [h,gx] at this;exact this.2.2 _ (kS.mp hz).1 _ (IV ..) rfl
 unfold hk;rw [ac9 b,pD];simp [a,j9]
theorem adf {moves:a8} {d:aw} (a:¬n1 moves bP τ=true):(d++[τ]).filter (n1 moves bP)=d.filter (n1 moves bP):=by
 rw [pD];simp [a]
theorem adg (Z:Base W P) {bS:ak} {moves:a8} (V:H bS=some (.dict .int (dJ moves))) (F:H c2=some (.dict .int (dJ bP))) (av:(ar bP).Nodup) (G:bP.length<=50) (X:∀p∈bP,p.2<2^12)
  (q:∀c aa,Ext H aa->H c=none->aa c=some (.dict .int (j9 (qq moves bP)))->Q (.ref c) aa):dw W (r+2) .clashes [.ref bS,.ref c2] H Q E:=by
 have K:(ea (ar bP)).length<=50:=by rw [(mU _).length_eq,f3];exact G
 refine Zu Z (fN 7 rfl<|lh 2 .int λ f=>qb (ys:=nats (ea (ar bP))) 1 (aL F) (by rw [j7];exact bF (a9 G (by decide))) ((congrArg (aio · gB) (oZ _)).trans (qm _)) λ L=> ?_)
 refine eL (ys:=ea (ar bP)) (c0:=λ n:Nat=> .int n) [1,2] [0,1,2] (cQ:=λ _ (s:ag×eC)=>s.1) (cR:=λ _ (s:ag×eC)=>[(1,L,.list (nats (ea (ar bP)))),(2,f,.dict .int (f5 s.2))]) (lf:=λ _ _=>[(0,.ref bS),(1,.ref c2),(2,.ref f)])
  (λ d _ s=>Ext H s.1∧kG s.1 s.2∧g7 s.2=c0 (js (jt bP d))∧∀p∈s.2,H p.2.1=none) (H,[]) (li (rc 1 rfl) λ _ _=>rc 1 rfl) rfl rfl rfl ⟨Ext.refl H,⟨λ _ h=>hQ h,.nil,.nil⟩,rfl,λ _ h=>hQ h⟩ (λ d i e s K' hd I m _=>⟨_,rfl,?_⟩) λ s I=> ?_
 ·obtain ⟨v,A⟩:=hh.mp (ey.mpr ((mU _).mem_iff.mp (show i∈ea (ar bP) by rw [hd];simp)))
  have Y:jt bP (d++[i])=jt bP d++(ja v).map λ τ=>(τ,i):=by unfold jt;rw [w1];simp [A]
  rw [Y] at m;refine hZ (aL (I.1 _ _ F)) ⟨_,rfl⟩ (by rw [h1,A];rfl)<|fm rfl rfl λ l H1 z f1=>ac4 Z (X _ (g4 A)) λ b2 dG a5 hG j=>T.go ?_ z (f1.put a5 3 hG j)
  refine eL (ys:=ja v) (c0:=λ n:Nat=> .int n) [1,2,3] [0,1,2,3] (cQ:=λ _ (s:ag×eC)=>s.1) (cR:=λ _ (s:ag×eC)=>[(1,L,.list (nats (ea (ar bP)))),(2,f,.dict .int (f5 s.2)),(3,b2,.list (nats (ja v)))]) (lf:=λ _ _=>[(0,.ref bS),(1,.ref c2),(2,.ref f),(3,.int (i:Nat))])
   (λ w _ s=>Ext H s.1∧kG s.1 s.2∧g7 s.2=c0 (js (jt bP d++w.map λ τ=>(τ,i)))∧∀p∈s.2,H p.2.1=none) s (li (rc 3 rfl) λ _ _=>rc 3 rfl) rfl rfl rfl ⟨I.1,I.2.1,by rw [kU,h9];exact I.2.2.1,I.2.2.2⟩ (λ w τ be u cV M aK d0 _=>⟨_,rfl,?_⟩) λ u aK=>cK (m u aK) rfl rfl
  have bL:(jt bP d++w.map λ τ=>(τ,i)).length<=1000:=by
   have a:=Pl bP d;have c:=congrArg gz hd;have d:=congrArg gz M;rw [cI] at c d;rw [cI,cz];exact qP (.l .p (.k 50) (n:=12)<| .l .q (.w 12 .r)<| .l .t (.k 12)<| .f .p (.a .r .u) (n:=12)<| .f .t (.a .z (.v 6))<| .g (.a .q .z) (.k 1000)) rfl K a (GL v) c d
  have adi:∀p∈jt bP d++w.map λ τ=>(τ,i),p.1∈ja ((br bP p.2).getD 0):=λ p g=>(c6.mp g).elim (Pr p) λ h=>by
   obtain ⟨t,b8,rfl⟩:=bH.mp h;show t∈ja ((br bP i).getD 0);rw [A];show t∈ja v;rw [M];exact f9 _ b8
  refine rP (rc 2 rfl) rfl<|Gr 2 rfl aK.2.1 ⟨_,rfl⟩ (by unfold lim;exact a9 (bB (bE (adb aK.2.2.1)) (Pq adi):u.2.length<=12) (by decide)) λ b ik B vs cM C x N iH=> ?_
  have aF:vs.length<lim:=by
   rcases N _ x with h | h
   ·unfold lim;exact a9 (bB (ade (k:=0) aK.2.2.1 (λ p g=>Pp _ p g) h) bL) (by decide)
   ·rw [show vs=[] from h.2];decide
  have O:∀p∈B,H p.2.1=none:=λ p g=>(N p g).elim (aK.2.2.2 p) λ h=>aK.1.none h.1;refine fl (aL (C.1 _ x)) rfl<|yn (C.1 _ x) aF rfl<|cK (d0 (_,jO B b (.int (i:Nat))) ⟨Ext.upd (λ a o h=>cM _ _ (aK.1 _ _ h)) (O _ x),C.app x,?_,λ p g=> ?_⟩) (by rw [BS];rfl) rfl
  ·rw [iH,aK.2.2.1,ac5,<- Pj (jt bP d++w.map λ τ=>(τ,i)) (τ,i),eR,jy];rfl
  ·obtain ⟨z,hz,e⟩:=bH.mp (BU B b _▸bH.mpr ⟨p,g,rfl⟩:p.2.1∈B.map (·.2.1));exact e▸O z hz
 ·have ao:(f5 s.2).map (·.1)=nats ((js (qp bP)).map (·.1)):=by rw [<- Ph,<- show g7 s.2=c0 (js (qp bP)) from I.2.2.1,vL];simp [f5]
  have R:(js (qp bP)).length<=12:=Pq Pr;refine lh 5 .int λ hX=>qb (ys:=nats (n0 bP)) 6 (rc 2 rfl) (by have:=congrArg gz ao;rw [cz,eu,cz] at this;exact bF (a9 (bB (bE this) R) (by decide))) (by rw [ao];exact qm _) λ di=> ?_
  refine eL (ys:=n0 bP) (c0:=λ n:Nat=> .int n) [2,5,6] [0,2,5] (cQ:=λ _ _=>s.1) (cR:=λ d _=>[(2,f,.dict .int (f5 s.2)),(5,hX,.dict .int (j9 ((d.filter (n1 moves bP)).map λ τ=>(τ,jQ bP τ)))),(6,di,.list (nats (n0 bP)))]) (lf:=λ _ _=>[(0,.ref bS),(2,.ref f),(5,.ref hX)])
   (λ _ _ (_:Unit)=>True) () (li (rc 6 rfl) λ _ _=>rc 6 rfl) rfl rfl rfl trivial (λ d τ e _ K' hd _ m _=>⟨_,rfl,?_⟩) λ _ _=>e9 λ aa f=>q hX aa (λ a o h=>f.1 _ _ (I.1 _ _ h)) (I.1.none (f.2 5 _ _ rfl)) (f.get 5 rfl)
  obtain ⟨p,g,rfl⟩:=bH.mp ((mU _).mem_iff.mp (show τ∈n0 bP by rw [hd];simp):τ∈(js (qp bP)).map (·.1))
  have S:p.2=jQ bP p.1:=(yM _).2.2 p g;obtain ⟨a,aD⟩:=OK I.2.1.2 (k:= .int (p.1:Nat)) (vs:=nats (jQ bP p.1)) (by rw [I.2.2.1];exact bH.mpr ⟨p,g,by rw [S]⟩);have y:=aD.2
  have y:=I.2.1.1 _ y;have D:(jQ bP p.1).length<=1000:=by
   rw [<- S];have:=Pp _ p g;unfold qp at this;exact ci (.l .p (.k 50) (n:=12)<| .l .q .r<| .l .r (.w 12 .p)<| .g .q (.k 1000)) rfl K this (Pl bP (ea (ar bP)))
  have U:(j9 ((d.filter (n1 moves bP)).map λ τ=>(τ,jQ bP τ))).length<lim:=by
   have j:=congrArg gz hd;have aM:(n0 bP).length<=12:=by unfold n0;rw [(mU _).length_eq,cz];exact R
   rw [cI] at j;unfold j9;rw [cz,cz];unfold lim;exact eZ (.l .p .q<| .f .r (.a .q .t)<| .l .r (.k 12)<| .g (.s .p) (.k 16000000)) rfl (qN (n1 moves bP) d) j aM
  refine hZ (rc 2 rfl) ⟨_,rfl⟩ aD.1<|iN (aL y) (eu _) (by unfold lim;exact bF (a9 D (by decide)))<|fv (λ J=> ?_) λ J=>abi (aL (I.1 _ _ V)) ⟨_,rfl⟩ rfl<|nP (λ j=> ?_) λ j=> ?_
  ·exact qa (aL y) (by rw [eu];unfold lim;exact bF (a9 D (by decide)))<|oU 5 rfl ⟨_,rfl⟩ U (Pt hd (decide_eq_true (.inl (hx.mp J))))<|cK (m () trivial) rfl rfl
  ·refine qa (aL y) (by rw [eu];unfold lim;exact bF (a9 D (by decide)))<|oU 5 rfl ⟨_,rfl⟩ U (Pt hd (decide_eq_true (.inr ?_)))<|cK (m () trivial) rfl rfl
   rw [h1,Tx] at j;exact ey.mp j
  ·exact cK (m () trivial) (by rw [adf λ h=>(of_decide_eq_true h).elim (λ h=>J (hx.mpr h)) λ h=>by rw [h1,Tx,ey.mpr h] at j;cases j];rfl) rfl
end
section
variable {W:a0} {P:eg} {r:Nat} {E:ag->Prop} {H:ag} {Q:KE} {g:ak} {G:au}
noncomputable abbrev GN (S:SVal):Prop:=gR ((ar S.bP).Nodup) (S.bP.length<=50) (∀p∈S.bP,p.2<2^12)
theorem adj (bS ms:a8) (d:∀p∈ms,p.2<2^12):(qq bS ms).length<=12:=by
 unfold qq;rw [cz];refine bB (qN ..) ?_;refine jM 12 _ (GM ms) λ a b=> ?_;obtain ⟨⟨x,y⟩,c,rfl⟩:=bH.mp (Pm.mp b);obtain ⟨z,_,h⟩:=nf.mp c;obtain ⟨t,b8,e⟩:=bH.mp h;cases e;exact fK.mp (kS.mp b8).1
theorem adk (bS ms:a8):((qq bS ms).map (·.1)).Nodup:=by
 unfold qq;rw [e5];have:((λ p:Nat×aw=>p.1)∘λ τ=>(τ,jQ ms τ))=id:=rfl;rw [this,Tz];exact IL _ (GM _)
theorem Pw {α:Type} {l d e:List α} {a:α} (h:l=d++a::e):l[d.length]? =some a:=by rw [h,jA (dn _),qM];rfl
theorem Px (Z:Base W P) {a:ak} (y:o5 H a aZ) (x:eM H aZ aj) (t:aj.length<=2000) (F:∀S∈aj,GN S)
  (q:∀c aa vs,Ext H aa->H c=none->aa c=some (.list vs)->(∀v∈vs,d1 4 v)->(vs=[]↔∀S∈aj,¬tL S)->vs.length<=lim->Q (.ref c) aa):dw W (r+3) .Jo [.ref a] H Q E:=by
 obtain ⟨fs,cZ,m⟩:=y.1;refine Zv Z (fN 5 rfl<|fw 1 rfl λ c=>bO (aL m.1) rfl m.2.1<|eL (ys:=aZ) (c0:=λ aA:ck=> .ref aA.x) [1] [0,1] (cQ:=λ _ _=>H) (cR:=λ _ vs=>[(1,c,.list vs)]) (lf:=λ _ _=>[(0,.ref a),(1,.ref c)])
  (λ d _ vs=>vs.length<=12*d.length∧(∀v∈vs,d1 4 v)∧(vs=[]↔∀S∈aj.take d.length,¬tL S)) [] (li (aL m.2.2) λ _ _=>aL m.2.2) rfl rfl rfl ⟨dz _,λ _ h=>hQ h,by simp⟩ (λ d aA e vs K' hd I G _=>⟨_,rfl,?_⟩) λ vs I=>e9 λ aa f=> ?_)
 rotate_left
 ·rw [wY (bE x.1.symm)] at I;exact q c aa vs f.1 (f.2 1 _ _ rfl) (f.get 1 rfl) I.2.1 I.2.2 (by have:=I.1;unfold lim;exact ci (.l .p (.k 2000) (n:=12)<| .l .q (.m 12 .r)<| .e .r .p (n:=12)<| .g .q (.k 16000000)) rfl t I.1 x.1)
 have u:=Pw hd;obtain ⟨X,S,k⟩:=x.get (i:=d.length) (by exact ci (.e .p .q<| .l (.s .r) .p<| .g (.s .r) .q) rfl x.1 ((cF.mp u).1));have A:=k.1;have z:=k.2.2.1
 rw [u] at A;cases A;have j:=F S (cY k.2.1);refine z.1.elim λ Y g=> ?_;have B:=adj S.moves S.bP j.3;have J:∀M:List (Nat×aw),(j9 M).map (·.1)=M.map λ p=>ai.int (p.1:Nat):=λ M=>by unfold j9;rw [e5];rfl
 refine yC z<|OO z<|fm rfl rfl λ l H1 K f=>adg Z (f.1 _ _ z.3) (f.1 _ _ z.4) j.1 j.2 j.3 λ C dG L N O=>T.go ?_ K (f.put L 3 N O);refine eL (ys:=qq S.moves S.bP) (c0:=λ p:Nat×aw=> .int (p.1:Nat)) [1,3] [0,1,2,3] (cQ:=λ _ _=>H) (cR:=λ _ vs=>[(1,c,.list vs),(3,C,.dict .int (j9 (qq S.moves S.bP)))]) (lf:=λ _ _=>[(0,.ref a),(1,.ref c),(2,.ref aA.x),(3,.ref C)])
  (λ o _ b=>b.length<=12*d.length+o.length∧(∀v∈b,d1 4 v)∧(b=[]↔vs=[]∧o=[])) vs (tC (rc 3 rfl) (J _) λ _ _=>rc 3 rfl) rfl rfl rfl ⟨I.1,I.2.1,by simp⟩ (λ o p cB b cV D aK R _=>⟨_,rfl,?_⟩) λ b aK=>cK (G b ⟨by rw [cI];have:=aK.1;simp only [f7,TA];exact ci (.l .p (.k 12)<| .l .q (.a (.m 12 .r) .p)<| .g .q (.m 12 (.s .r))) rfl B aK.1,aK.2.1,?_⟩) rfl rfl
 ·have U:o.length<12:=by have:=congrArg gz D;rw [cI,f7] at this;exact ci (.l .p (.k 12)<| .f .p (.a .q (.s .r))<| .g (.s .q) (.k 12)) rfl B this
  refine fl (rc 1 rfl) rfl<|acJ z<|hZ (rc 3 rfl) ⟨_,rfl⟩ (ada (adk ..) (show p∈_ by rw [D];simp))<|g0 1 rfl (by have:=aK.1;unfold lim;exact eZ (.l .p (.k 2000) (n:=12)<| .l .q (.a (.m 12 .r) .t)<| .l (.s .t) (.k 12)<| .l (.s .r) .p (n:=12)<| .g (.s .q) (.k 16000000)) rfl t aK.1 U ((cF.mp k.2.1).1)) rfl<|cK (R (b++[_]) ⟨by rw [cI,cI];exact ug aK.1,λ v V=>(c6.mp V).elim (aK.2.1 v) λ h=> ?_,by simp⟩) rfl rfl
  rw [b3] at h;subst h;exact .tup (kg.mpr ⟨.int,kg.mpr ⟨.int,kg.mpr ⟨.tup λ w hw=>by obtain ⟨n,_,rfl⟩:=bH.mp hw;exact .int,λ _ h=>(by cases h)⟩⟩⟩)
 ·rw [aK.2.2,I.2.2,ac6 j.1 j.3,cI,nd,og,k.2.1];simp only [Option.toList_some,c6,b3];exact ⟨λ h T s=>s.elim (h.1 T) λ e=>e▸h.2,λ h=>⟨λ T s=>h T (.inl s),h S (.inr rfl)⟩⟩
theorem ado {C:gY} {L:Cells} {k:aJ} {st:aV} {K:dK} {b:Bool} (h:dD B L x (.list xs)) (a:xs.length<=lim) (e:(!decide (xs≠[]))=b) (q:T C B L (bb C.n k (.bool b::st) A) K):T C B L (.not::k,.ref x::st,A) K:=λ l H z f=>iX.list (h H f) a (e▸q.go z f)
theorem adp (Z:Base W P) {a:ak} (y:o5 H a aZ) (x:eM H aZ aj) (d:aj.length<=2000) (g:∀S∈aj,GN S)
  (q:∀aa,Ext H aa->Q (.bool (decide (∀S∈aj,¬tL S))) aa):dw W (r+4) .Jp [.ref a] H Q E:=
 Zw Z (fN 1 rfl<|fm rfl rfl λ l H1 z f=>Px Z (y.ext f.1) (x.ext f.1) d g λ c j vs e n h _ i d=>T.go (ado (b:=decide (∀S∈aj,¬tL S)) (rc 1 rfl) d (by by_cases h:vs=[]<;>simp [h,i.symm])<|e9 λ aa f=>q aa f.1) z (f.put e 1 n h))
end
section
abbrev aS:=a8
variable {G:au} {cD:aS->Prop}
theorem tM (K:aS) (i:Nat):fP K i=(ar K).getD i 0:=by
 unfold fP ar;simp only [eS,ff];cases K[i]? <;>rfl
theorem Pz (h:ar K=ar L) (b:∀k,bV K k=bV L k):K=L:=by
 have d:K.length=L.length:=by have:=congrArg gz h;simpa [ar] using this
 refine uv d λ i J e=> ?_;have a:=tM K i;rw [h,<- (tM L i)] at a;have c:=b i;unfold fP at a;unfold bV at c;simp only [eS,c4 J,c4 e,Jh] at a c;exact ux a c
theorem B8 {K:aS} {k:Nat} (h:K.length<=k):bV K k=0:=by
 unfold bV;rw [eS,qD h];rfl
theorem kH (K L:aS):ar (c3 K L)=ar K:=by
 refine uv (by simp [ar,c3]) λ i J a=> ?_
 simp [ar,c3,fP,(by simpa [ar] using a:i<K.length)]
theorem r8 (h:ar K=ar L) (k:Nat):bV (c3 K L) k=bV K k|||bV L k:=by
 have a:K.length=L.length:=by have:=congrArg gz h;simpa [ar] using this
 by_cases ao:k<K.length
 ·unfold bV c3;simp [ao,bV]
 ·rw [B8 (by simp [c3];exact fD ao),B8 (K:=K) (fD ao),B8 (K:=L) (bB (bE a.symm) (fD ao))];rfl
def Sub (K L:aS):Prop:=ar K=ar L∧∀k,bV K k|||bV L k=bV L k
theorem Sub.refl (K:aS):Sub K K:=⟨rfl,λ k=>DJ _⟩
theorem Sub.trans {M:aS} (a:Sub K L) (b:Sub L M):Sub K M:=⟨a.1.trans b.1,λ k=>by
 rw [<- (b.2 k),<- (a.2 k)];refine pC λ τ=> ?_;simp only [hA];cases (bV K k).testBit τ<;>cases (bV L k).testBit τ<;>simp⟩
theorem adq (h:ar K=ar L):Sub K (c3 K L):=⟨(kH K L).symm,λ k=>by rw [r8 h,<- DK,DJ]⟩
theorem GO (h:ar K=ar L):Sub L (c3 K L):=⟨by rw [kH,h],λ k=>by
 rw [r8 h,uJ (bV K k),<- DK,DJ]⟩
theorem ads (h:ar K=ar L) (e:c3 K L=K):Sub L K:=e▸GO h
theorem adt (h:Sub K L):il L K:=λ i j _ _=>by
 unfold r3
 by_cases e:bV L i&&&bV L j=0
 ·left;have key:∀a b,bV L a&&&bV L b=0->bV L a&&&bV K b=0:=λ a b e=>by
   refine pC λ τ=> ?_;have c:=congrArg (·.testBit τ) e;have h':=congrArg (·.testBit τ) (h.2 b);simp only [Ji,hA,Jj] at*;cases J:(bV L a).testBit τ<;>cases d:(bV K b).testBit τ<;>simp_all
  exact ⟨key i j e,key j i (by rw [z0];exact e)⟩
 ·exact .inr (.inl e)
theorem adu (h:K.length=1):il K L:=λ i j J a=>(fR 0 (ci (.e .p .o<| .l (.s .q) .r<| .l (.s .r) .p<| .g .o (.k 0) (n:=0)) rfl h J a)).elim
theorem filter_lt {α:Type} {p q:α->Bool}:∀{l:List α},(∀x∈l,p x=true->q x=true)->(l.filter p).length<=(l.filter q).length∧((∃x∈l,q x=true∧p x=false)->(l.filter p).length<(l.filter q).length):=by
 intro l
 induction l with
 | nil=>intro _;exact ⟨dn _,λ z=>z.elim λ x z=>hQ z.1⟩
 | cons a l ih=>
  intro h;have aD:=ih λ x b=>h x (.tail _ b);cases c:p a
  ·cases d:q a
   ·rw [Dj (by simp [c]),Dj (by simp [d])]
    exact ⟨aD.1,λ z=>z.elim λ x z=>(dZ.mp z.1).elim (λ w=>absurd (d.symm.trans (w▸z.2.1)) fS) λ b=>aD.2 ⟨x,b,z.2⟩⟩
   ·rw [Dj (by simp [c]),Dk d,f7]
    exact ⟨bF (a9 aD.1 (gj _)),λ _=>a9 aD.1 (gj _)⟩
  ·rw [Dk c,Dk ((h a (.head _)) c),f7,f7];exact ⟨su (a9 aD.1 (gj _)),λ z=>z.elim λ x z=>(dZ.mp z.1).elim (λ w=>absurd ((w▸z.2.2:p a=false).symm.trans c) fS) λ b=>Sw (aD.2 ⟨x,b,z.2⟩)⟩
noncomputable def vP (m:Nat):Nat:=(ja m).length
theorem adv (h:m|||n=n):vP m<=vP n∧(m<2^12->n<2^12->m≠n->vP m<vP n):=by
 have b:∀τ,m.testBit τ=true->n.testBit τ=true:=λ τ d=>by rw [<- h,hA,d,Jb]
 have c:=filter_lt (p:=m.testBit) (q:=n.testBit) (l:=cg 12) λ x _=>b x;refine ⟨c.1,λ j f g=>c.2 ?_⟩;refine eo λ i=>g (pC λ τ=> ?_);cases e:m.testBit τ with
 | true=>rw [b τ e]
 | false=>
  cases a:n.testBit τ with
  | false=>rfl
  | true=>
   refine absurd ⟨τ,fK.mpr ?_,a,e⟩ i;rcases pv τ 12 with h' | h'
   ·exact h'
   ·rw [w0 (bx f (zY (by decide) h'))] at a;cases a
noncomputable def mV (K:aS):Nat:=(K.map λ p=>vP p.2).sum
theorem adw (K:aS):mV K<=K.length*12:=by
 induction K with
 | nil=>simp [mV]
 | cons p K ih=>
  simp only [mV,fe,wZ,f7,vP] at*;exact ci (.l .p (.w 12 .q)<| .l .r (.k 12)<| .g (.a .r .p) (.w 12 (.s .q))) rfl ih (GL p.2)
theorem adx:∀{K L:aS},Sub K L->(∀p∈K,p.2<2^12)->(∀p∈L,p.2<2^12)->mV K<=mV L∧(K≠L->mV K<mV L):=by
 intro K
 induction K with
 | nil=>
  intro L h _ _;cases L with
  | nil=>exact ⟨dn _,λ h=>absurd rfl h⟩
  | cons=>cases h.1
 | cons p K ih=>
  intro L h cw c;cases L with
  | nil=>cases h.1
  | cons q L=>
   have J:=h.1;simp only [ar,fe,Tv] at J;have b:=ih (⟨J.2,λ k=>by simpa [bV] using (h.2 (k+1))⟩:Sub K L) (λ p a=>cw p (.tail _ a)) λ p a=>c p (.tail _ a)
   have a:p.2|||q.2=q.2:=by have:=h.2 0;simpa [bV] using this
   have aD:=adv a;simp only [mV,fe,wZ] at*;refine ⟨R3 aD.1 b.1,λ d=> ?_⟩
   by_cases e:p.2=q.2
   ·rw [e];exact wt (b.2 (λ f=>d (by rw [f,ux J.1 e]):K≠L)) _
   ·exact Nat.add_lt_add_of_lt_of_le (aD.2 (cw p (.head _)) (c q (.head _)) e) b.1
def o9 (G:au) (c:aw) (X:Nat) (L:aw):Prop:=L.Pairwise (·< ·)∧∀i,i∈L↔∃j,i=j+1∧fg G (· ∈c) j∧G.cC j=some X
def vQ (G:au) (c:aw) (L:aw):Prop:=L.Pairwise (·< ·)∧∀X,X∈L↔∃j,fg G (· ∈c) j∧G.cC j=some X
theorem vR:∀{L M:aw},L.Pairwise (·< ·)->M.Pairwise (·< ·)->(∀i,i∈L↔i∈M)->L=M:=by
 intro L
 induction L with
 | nil=>
  intro M _ _ h;cases M with
  | nil=>rfl
  | cons a M=>exact absurd ((h a).mpr (.head _)) (by simp)
 | cons a L ih=>
  intro M d f h;cases M with
  | nil=>exact absurd ((h a).mp (.head _)) (by simp)
  | cons b M=>
   rewrite [List.pairwise_cons] at d f;have j:a=b:=by
    rcases dZ.mp ((h a).mp (.head _)) with e | e
    ·exact e
    ·rcases dZ.mp ((h b).mpr (.head _)) with g | g
     ·exact g.symm
     ·exact dg (bD (.l (.s .p) .q<| .g .p .q) rfl (d.1 b g)) (bD (.l (.s .p) .q<| .g .p .q) rfl (f.1 a e))
   subst j
   (rewrite [ih d.2 f.2 λ i=> ?_];try (with_reducible rfl))
   constructor
   ·intro c;rcases dZ.mp ((h i).mp (.tail _ c)) with e | e
    ·exact (fR 0 (bD (.e .p .q<| .l (.s .q) .p<| .g .o (.k 0) (n:=0)) rfl e (d.1 i c))).elim
    ·exact e
   ·intro c;rcases dZ.mp ((h i).mpr (.tail _ c)) with e | e
    ·exact (fR 0 (bD (.e .p .q<| .l (.s .q) .p<| .g .o (.k 0) (n:=0)) rfl e (f.1 i c))).elim
    ·exact e
theorem c1.go {es:aS} (x:c1 G G.bN G.bR K es) (X:Nat):o9 G (ar K) X (ar (G.goto es X)):=by
 refine ⟨lr x.1 X,λ i=> ?_⟩;unfold ar;rw [bH];constructor
 ·rintro ⟨p,a,rfl⟩;obtain ⟨j,aD⟩:=mQ.mp a;exact ⟨j,aD.1,(x.2 j).mp (bH.mpr ⟨_,aD.2.1,rfl⟩),aD.2.2⟩
 ·rintro ⟨j,rfl,b,c⟩;obtain ⟨m,d⟩:=hh.mp (ey.mpr ((x.2 j).mpr b));exact ⟨(j+1,m),mQ.mpr ⟨j,rfl,g4 d,c⟩,rfl⟩
theorem vS (es:aS):(G.syms es).Pairwise (·< ·):=by
 refine (air.mpr ⟨(acx (G:=G) es),(Gn (G:=G) es)⟩).imp λ ⟨J,a⟩=>sA (bD (.l .p .q<| .g .p .q) rfl J) a
theorem c1.r9 {es:aS} (x:c1 G G.bN G.bR K es):vQ G (ar K) (G.syms es):=by
 refine ⟨vS es,λ X=> ?_⟩;rw [yy];constructor
 ·rintro ⟨p,a,h⟩;exact ⟨p.1,(x.2 p.1).mp (bH.mpr ⟨_,a,rfl⟩),h⟩
 ·rintro ⟨j,b,c⟩;obtain ⟨m,d⟩:=hh.mp (ey.mpr ((x.2 j).mpr b));exact ⟨(j,m),g4 d,c⟩
theorem o9.eq {c L M:aw} {X:Nat} (a:o9 G c X L) (b:o9 G c X M):L=M:=vR a.1 b.1 λ i=>(a.2 i).trans (b.2 i).symm
theorem vQ.eq {c L M:aw} (a:vQ G c L) (b:vQ G c M):L=M:=vR a.1 b.1 λ i=>(a.2 i).trans (b.2 i).symm
end
section
variable {G:au} {cD:aS->Prop}
noncomputable abbrev l6 (G:au) (cD:aS->Prop):Prop:=jC (∀K,cD K->fQ G K) (cD G.dY) (∀K es,cD K->c1 G G.bN G.bR K es->∀X∈G.syms es,cD (G.goto es X)) (∀K L,cD K->cD L->ar K=ar L->il K L->cD (c3 K L)) (∀l:List aS,l.Nodup->(∀K∈l,cD K)->l.length<2000)
noncomputable abbrev tN (G:au) (aj:b9) (S:SVal):Prop:=jC (c1 G G.bN G.bR S.aU S.items) (S.bP=G.dv S.items) (S.r2=ea (ar S.bP)) (ar S.moves=G.syms S.items) (∀X j,(X,j)∈S.moves->∃T:SVal,aj[j]? =some T∧Sub (G.goto S.items X) T.aU)
noncomputable def room (aj:b9):Nat:=(aj.map λ S=>600 - mV S.aU).sum
noncomputable abbrev eY (G:au) (cD:aS->Prop) (ex:Nat->Prop) (aj:b9) (dF:List aS) (wl:aw) (bQ:cO) (a:Nat):Prop:=eT (dF.length=aj.length) (bQ.length=aj.length) (dF.Nodup) (∀K∈dF,cD K) (∀(i:Nat) (S:SVal) (C:aS),aj[i]? =some S->dF[i]? =some C->Sub C S.aU) (eT (∀S∈aj,cD S.aU) (∀(i:Nat) (S:SVal),aj[i]? =some S->S.num=i) (∃S:SVal,aj[0]? =some S∧Sub G.dY S.aU∧S.sym= -1) (∀(i:Nat) (S:SVal),aj[i]? =some S->0<i->∃X:Nat,S.sym=(X:Nat)∧S.aU≠[]∧∀k∈ar S.aU,∃j,k=j+1∧G.cC j=some X) (∀i∈wl,i<aj.length) (eT (∀i,bQ[i]? =some true->i∈wl.drop a) (a<=wl.length) (wl.length+(2000 - aj.length)*602+room aj<=1204000) (∀(i j:Nat) (S T:SVal),aj[i]? =some S->aj[j]? =some T->S.aU.length=1->ar S.aU=ar T.aU->i=j) (∀S∈aj,∀X j,(X,j)∈S.moves->∃T:SVal,aj[j]? =some T∧o9 G (ar S.aU) X (ar T.aU)) (gR (∀(i:Nat) (S:SVal),aj[i]? =some S->¬ex i->S.moves=[]∨vQ G (ar S.aU) (ar S.moves)) (∀S∈aj,(ar S.moves).Nodup) (∀(i:Nat) (S:SVal),aj[i]? =some S->¬ex i->bQ[i]? =some false->tN G aj S))))
def pa (aj g8:b9) (bQ hu:cO):Prop:=∀(i:Nat) (S:SVal),aj[i]? =some S->∃K',g8[i]? =some {S with aU:=K'}∧Sub S.aU K'∧(K'=S.aU∨hu[i]? =some true)∧(bQ[i]? =some true->hu[i]? =some true)
theorem pa.refl (aj:b9) (bQ:cO):pa aj aj bQ bQ:=λ _ S h=>⟨S.aU,h,Sub.refl _,.inl rfl,id⟩
theorem tN.B9 (x:tN G aj S) (k:pa aj g8 bQ hu):tN G g8 S:=
 ⟨x.1,x.2,x.3,x.4,λ X j h=>by
  obtain ⟨T,a⟩:=x.5 X j h;obtain ⟨K',b⟩:=k j T a.1;exact ⟨_,b.1,a.2.trans b.2.1⟩⟩
theorem GP {c:aw} (k:pa aj g8 bQ hu) (h:∀X j,(X,j)∈ms->∃T:SVal,aj[j]? =some T∧o9 G c X (ar T.aU)):∀X j,(X,j)∈ms->∃T:SVal,g8[j]? =some T∧o9 G c X (ar T.aU):=λ X j d=>by
 obtain ⟨T,a⟩:=h X j d;obtain ⟨K',b⟩:=k j T a.1;exact ⟨_,b.1,by dsimp only;rw [<- b.2.1.1];exact a.2⟩
theorem kI {α:Type} {l:List α} {b c:α} (h:(l++[b])[i]? =some c):l[i]? =some c∨(i=l.length∧c=b):=by
 by_cases a:i<l.length
 ·rw [jY a] at h;exact .inl h
 ·rw [jA (fD a)] at h;have hz:i - l.length=0:=by
   have:=(cF.mp h).1;simp at this;exact this
  rw [hz] at h;simp only [Jf,DH] at h;exact .inr ⟨dg (ci (.e .p (.k 0)<| .l .q (.a .p .r)<| .g .q .r) rfl hz (sb _ _)) (bD (.l .p .q<| .g .p .q) rfl (fD a)),h.symm⟩
theorem Ca {α:Type} {l:List α} {b c:α} (h:l[i]? =some c):(l++[b])[i]? =some c:=by
 rw [jY (cF.mp h).1];exact h
theorem PA {aj:b9} {bQ:cO} {T:SVal} {b:Bool}:pa aj (aj++[T]) bQ (bQ++[b]):=λ _ S h=>⟨S.aU,Ca h,Sub.refl _,.inl rfl,λ h=>Ca h⟩
theorem eY.cnt (O:l6 G cD) (x:eY G cD ex aj dF wl bQ a):aj.length<2000:=by
 rw [<- x.1];exact O.5 _ x.3 x.4
theorem PB (a:G.Ok) (h:fQ G K):mV K<=600:=by
 exact bD (.l .p (.k 50) (n:=12)<| .l .q (.w 12 .p)<| .g .q (.k 600)) rfl (h.len a) (adw K)
theorem eY.add (O:l6 G cD) (E:G.Ok) (x:eY G cD ex aj dF wl bQ a) {X:Nat} (cw:cD K) (A:K≠[]) (B:∀k∈ar K,∃j,k=j+1∧G.cC j=some X)
  (r:∀S∈aj,ar S.aU=ar K->¬il S.aU K) (hex:¬ex aj.length):
  aj.length<1999∧eY G cD ex (aj++[⟨aj.length,K,(X:Nat),[],[],[],[]⟩]) (dF++[K]) (wl++[aj.length]) (bQ++[true]) a:=by
 have D:K∉dF:=λ h=>by
  obtain ⟨i,s,e⟩:=mi h;have t:i<aj.length:=by rw [<- x.1];exact s
  have:=x.5 i aj[i] K (c4 t) (by rw [c4 s,e])
  exact r _ (jd t) this.1.symm (adt this)
 have u:(dF++[K]).Nodup:=by
  rw [gx];exact ⟨x.3,by simp,λ b g c aI=>by rw [b3] at aI;subst aI;rintro rfl;exact D g⟩
 have v:∀C∈dF++[K],cD C:=λ C h=>(c6.mp h).elim (x.4 C) λ h=>by rw [b3] at h;subst h;exact cw
 have g:=O.5 _ u v;rw [cI,x.1,nd] at g;have w:=PA (aj:=aj) (bQ:=bQ) (T:=⟨aj.length,K,(X:Nat),[],[],[],[]⟩) (b:=true);refine ⟨ct (.l (.s (.s .p)) (.k 2000)<| .g (.s .p) (.k 1999)) rfl g,by simp [x.1],by simp [x.2],u,v,λ i S C J l=> ?_,λ S h=> ?_,λ i S h=> ?_,?_,λ i S h h0=> ?_,λ i h=> ?_,λ i h=> ?_,by rw [cI];exact bB x.6.6.2 (fJ _ _),?_,λ i j S T J l f d=> ?_,λ S h Y j y=> ?_,λ i S h o=> ?_,λ S h=> ?_,λ i S h o hw=> ?_⟩
 ·rcases kI J with f | ⟨p,rfl⟩<;>rcases kI l with d | ⟨q,rfl⟩
  ·exact x.5 i S C f d
  ·exact (fR 0 (ci (.f .p .q<| .l (.s .p) .r<| .f .q .r<| .g .o (.k 0) (n:=0)) rfl q ((cF.mp f).1) x.1)).elim
  ·exact (fR 0 (ci (.f .p .q<| .l (.s .p) .r<| .e .r .q<| .g .o (.k 0) (n:=0)) rfl p ((cF.mp d).1) x.1)).elim
  ·exact Sub.refl _
 ·rcases c6.mp h with h | h
  ·exact x.6.1 S h
  ·rw [b3] at h;subst h;exact cw
 ·rcases kI h with h | ⟨e,rfl⟩
  ·exact x.6.2 i S h
  ·exact e.symm
 ·obtain ⟨S,J,l⟩:=x.6.3;exact ⟨S,Ca J,l⟩
 ·rcases kI h with h | ⟨e,rfl⟩
  ·exact x.6.4 i S h h0
  ·exact ⟨X,rfl,A,B⟩
 ·rw [cI,nd];rcases c6.mp h with h | h
  ·exact bX (x.6.5 i h) (gj _)
  ·rw [b3] at h;exact a9 (bE h) (gj _)
 ·rw [ais x.6.6.2];rcases kI h with h | ⟨e,_⟩
  ·exact f9 _ (x.6.6.1 i h)
  ·rw [x.2] at e;subst e;simp
 ·unfold room at*;rw [cI,cI,eR,List.sum_append];simp only [nd,fe,kU,wZ,List.sum_nil];exact uK (.l (.a (.a .p (.w 602 .q)) .r) (.k 1204000)<| .l (.a .t (.s .u)) (.k 2000) (n:=602)<| .l .z (.k 600)<| .l (.k 2000) (.a .q .u) (n:=602)<| .g (.a (.a (.s .p) (.w 602 .t)) (.a .r (.a .z (.k 0)))) (.k 1204000)) rfl x.6.6.3 (bE (ef (ct (.l (.s (.s .p)) (.k 2000)<| .g (.s .p) (.k 2000)) rfl g))) (ur _ _) (sb _ _)
 ·have key:∀(i:Nat) (S:SVal),aj[i]? =some S->S.aU.length=1->ar S.aU=ar K->False:=λ i S J f d=>r S (cY J) d (adu f);rcases kI J with m | ⟨p,rfl⟩<;>rcases kI l with z | ⟨q,rfl⟩
  ·exact x.6.6.4 i j S T m z f d
  ·exact absurd d λ d=>key i S m f d
  ·have m:T.aU.length=1:=by
    have:=congrArg gz d;simp only [f3] at this;exact this.symm.trans f
   exact absurd d λ d=>key j T z m d.symm
  ·exact p.trans q.symm
 ·rcases c6.mp h with h | h
  ·exact GP w (x.6.6.5 S h) Y j y
  ·rw [b3] at h;subst h;cases y
 ·rcases kI h with h | ⟨e,rfl⟩
  ·exact x.6.6.6.1 i S h o
  ·exact .inl rfl
 ·rcases c6.mp h with h | h
  ·exact x.6.6.6.2 S h
  ·rw [b3] at h;subst h;exact .nil
 ·rcases kI hw with hw | ⟨_,e⟩
  ·rcases kI h with h | ⟨e,rfl⟩
   ·exact (x.6.6.6.3 i S h o hw).B9 w
   ·exact (fR 0 (ci (.f .p .q<| .l (.s .p) .r<| .e .r .q<| .g .o (.k 0) (n:=0)) rfl e ((cF.mp hw).1) x.2)).elim
  ·cases e
theorem lx {α:Type} {l:List α} {b c:α} (h:(l.set i b)[j]? =some c):(j≠i∧l[j]? =some c)∨(j=i∧c=b∧i<l.length):=by
 by_cases e:j=i
 ·subst e;have a:=(cF.mp h).1;rw [je] at a;rw [hP a] at h;cases h;exact .inr ⟨rfl,rfl,a⟩
 ·rw [iS (λ h=>e h.symm)] at h;exact .inl ⟨e,h⟩
theorem mem_set {α:Type} {l:List α} {b c:α} (h:c∈l.set i b):c∈l∨c=b:=wW h
theorem PE {S':SVal} (h:aj[i]? =some S):room (aj.set i S')+(600 - mV S.aU)=room aj+(600 - mV S'.aU):=by
 unfold room
 induction aj generalizing i with
 | nil=>simp at h
 | cons T aj ih=>
  cases i with
  | zero=>simp at h;subst h;simp only [List.set_cons_zero,fe,wZ];exact dg (ci (.g (.a (.a .p .q) .r) (.a (.a .r .q) .p)) rfl) (ci (.g (.a (.a .p .q) .r) (.a (.a .r .q) .p)) rfl)
  | succ i=>
   have:=ih (i:=i) (by simpa using h)
   simp only [aim,fe,wZ] at*;exact dg (hC (.e (.a .p .q) (.a .r .t)<| .g (.a (.a .u .p) .q) (.a (.a .u .r) .t)) rfl this) (hC (.f (.a .p .q) (.a .r .t)<| .g (.a (.a .u .r) .t) (.a (.a .u .p) .q)) rfl this)
theorem ady {K':aS} (h:aj[i]? =some S) (c:Sub S.aU K') (a:hu[i]? =some true) (hw:∀j:Nat,bQ[j]? =some true->hu[j]? =some true):pa aj (aj.set i {S with aU:=K'}) bQ hu:=λ j T e=>by
 have d:=(cF.mp h).1
 by_cases b:j=i
 ·subst b;rw [h] at e;cases e;exact ⟨K',hP d,c,.inr a,λ _=>a⟩
 ·exact ⟨T.aU,by rw [iS (λ h=>b h.symm)];exact e,Sub.refl _,.inl rfl,hw j⟩
theorem eY.grow {c:aw} (O:l6 G cD) (z:G.Ok) (x:eY G cD ex aj dF wl bQ a) (b:aj[i]? =some S) (cw:cD K) (ao:ar S.aU=ar K) (hw:il S.aU K) (r:c3 S.aU K≠S.aU)
  (L:hu=bQ.set i true) (M:(bQ[i]? =some true∧c=wl)∨c=wl++[i]):
  eY G cD ex (aj.set i {S with aU:=c3 S.aU K}) dF c hu a∧pa aj (aj.set i {S with aU:=c3 S.aU K}) bQ hu:=by
 subst L;have A:=(cF.mp b).1;have l:=cY b;have s:=adq ao;have t:(bQ.set i true)[i]? =some true:=hP (by rw [x.2];exact A)
 have N:∀j:Nat,bQ[j]? =some true->(bQ.set i true)[j]? =some true:=λ j h=>by
  by_cases e:j=i
  ·subst e;exact t
  ·rw [iS (λ h=>e h.symm)];exact h
 have f:=ady (K':=c3 S.aU K) b s t N;have B:cD (c3 S.aU K):=O.4 _ _ (x.6.1 S l) cw ao hw;have g:ar (c3 S.aU K)=ar S.aU:=kH ..;have d:c.length<=wl.length+1∧(∀j∈c,j<aj.length)∧a<=c.length∧(∀j∈wl.drop a,j∈c.drop a)∧i∈c.drop a:=by
  rcases M with ⟨J,rfl⟩ | rfl
  ·exact ⟨bF (gj _),x.6.5,x.6.6.2,λ j h=>h,x.6.6.1 i J⟩
  ·rw [ais x.6.6.2];refine ⟨by simp,λ j h=> ?_,by simp;exact bF (a9 x.6.6.2 (gj _)),λ j h=>f9 _ h,by simp⟩
   rcases c6.mp h with h | h
   ·exact x.6.5 j h
   ·rw [b3] at h;subst h;exact A
 refine ⟨⟨by simp [x.1],by simp [x.2],x.3,x.4,λ j T C J m=> ?_,λ T h=> ?_,λ j T h=> ?_,?_,λ j T h h0=> ?_,λ j h=>by rw [je];exact d.2.1 j h,λ j h=> ?_,d.2.2.1,?_,λ j k T U J m P Q=> ?_,λ T h Y j D=> ?_,λ j T h n=> ?_,λ T h=> ?_,λ j T h n hw=> ?_⟩,f⟩
 ·rcases lx J with ⟨_,J⟩ | ⟨rfl,rfl,_⟩
  ·exact x.5 j T C J m
  ·exact (x.5 j S C b m).trans s
 ·rcases mem_set h with h | rfl
  ·exact x.6.1 T h
  ·exact B
 ·rcases lx h with ⟨_,h⟩ | ⟨rfl,rfl,_⟩
  ·exact x.6.2 j T h
  ·exact x.6.2 j S b
 ·obtain ⟨T,u⟩:=x.6.3;obtain ⟨K',E⟩:=f 0 T u.1;exact ⟨_,E.1,u.2.1.trans E.2.1,u.2.2⟩
 ·rcases lx h with ⟨_,h⟩ | ⟨rfl,rfl,_⟩
  ·exact x.6.4 j T h h0
  ·obtain ⟨X,v⟩:=x.6.4 j S b h0;refine ⟨X,v.1,λ e=>v.2.1 ?_,by dsimp only;rw [g];exact v.2.2⟩
   have:=congrArg gz g;dsimp only at e;rw [e] at this;simp only [f3,TA] at this;exact wi this.symm
 ·by_cases e:j=i
  ·subst e;exact d.2.2.2.2
  ·rw [iS (λ h=>e h.symm)] at h;exact d.2.2.2.1 j (x.6.6.1 j h)
 ·have p:=x.6.6.3;have q:=PE (S':={S with aU:=c3 S.aU K}) b;have F:=O.1 _ (x.6.1 S l);have H:=O.1 _ B;have cM:=PB z F;rw [je];dsimp only at q;have:=d.1;exact TF (.l .p (.s .q)<| .l (.a (.a .q (.w 602 .r)) .t) (.k 1204000)<| .e (.a .u .z) (.a .t (.v 6))<| .l (.s (.v 7)) (.v 8)<| .l (.k 600) (.a .z (.v 7))<| .l (.a (.v 6) (.v 8)) (.k 600)<| .g (.a (.a .p (.w 602 .r)) .u) (.k 1204000)) rfl d.1 p q ((adx s (λ p w=>(F.2 p w).2) λ p w=>(H.2 p w).2).2 (hy r)) (sb _ _) (bE (ef (ct (.l .p (.k 600)<| .g .p (.k 600)) rfl (PB z H))))
 ·have I:∀(j:Nat) (T:SVal),(aj.set i {S with aU:=c3 S.aU K})[j]? =some T->∃o,aj[j]? =some o∧ar o.aU=ar T.aU:=λ j T h=>by
   rcases lx h with ⟨_,h⟩ | ⟨rfl,rfl,_⟩
   ·exact ⟨T,h,rfl⟩
   ·exact ⟨S,b,g.symm⟩
  obtain ⟨o,y⟩:=I j T J;obtain ⟨R,aD⟩:=I k U m;refine x.6.6.4 j k o R y.1 aD.1 ?_ (by rw [y.2,aD.2];exact Q)
  have:=congrArg gz y.2;simp only [f3] at this;rw [this];exact P
 ·rcases mem_set h with h | rfl
  ·exact GP f (x.6.6.5 T h) Y j D
  ·dsimp only;rw [g];exact (GP f (x.6.6.5 S l) Y j D)
 ·rcases lx h with ⟨_,h⟩ | ⟨rfl,rfl,_⟩
  ·exact x.6.6.6.1 j T h n
  ·dsimp only;rw [g];exact x.6.6.6.1 j S b n
 ·rcases mem_set h with h | rfl
  ·exact x.6.6.6.2 T h
  ·exact x.6.6.6.2 S l
 ·rcases lx h with ⟨r,h⟩ | ⟨rfl,rfl,_⟩
  ·rw [iS (λ h=>r h.symm)] at hw;exact (x.6.6.6.3 j T h n hw).B9 f
  ·rw [t] at hw;cases hw
end
section
variable {G:au} {cD:aS->Prop}
theorem eY.begin (x:eY G cD (λ _=>False) aj dF wl bQ a) (c:wl[a]? =some n):eY G cD (· =n) aj dF wl (bQ.set n false) (a+1):=by
 have d:=(cF.mp c).1;have f:∀{i:Nat} {b:Bool},i≠n->(bQ.set n false)[i]? =some b->bQ[i]? =some b:=λ h e=>by rwa [iS (λ e=>h e.symm)] at e
 refine ⟨x.1,by simp [x.2],x.3,x.4,x.5,x.6.1,x.6.2,x.6.3,x.6.4,x.6.5,λ i h=> ?_,d,x.6.6.3,x.6.6.4,x.6.6.5,λ i S h _=>x.6.6.6.1 i S h id,x.6.6.6.2,λ i S h g hw=>x.6.6.6.3 i S h id (f g hw)⟩
 by_cases e:i=n
 ·subst e;rcases lx h with ⟨h,_⟩ | ⟨_,h,_⟩
  ·exact absurd rfl h
  ·cases h
 ·have:=x.6.6.1 i (f e h);rw [wD d] at this;rcases dZ.mp this with h | h
  ·obtain ⟨_,j⟩:=cF.mp c;exact absurd (h.trans j) e
  ·exact h
theorem PH {S':SVal} (a:aj[n]? =some S) (ao:S'.aU=S.aU) {T:SVal} (h:aj[j]? =some T):∃b,(aj.set n S')[j]? =some b∧b.aU=T.aU:=by
 have c:=(cF.mp a).1
 by_cases e:j=n
 ·subst e;rw [a] at h;cases h;exact ⟨S',hP c,ao⟩
 ·exact ⟨T,by rw [iS (λ h=>e h.symm)];exact h,rfl⟩
theorem eY.alter (x:eY G cD (· =n) aj dF wl bQ a) (b:aj[n]? =some S) (J:S'.num=S.num) (f:S'.aU=S.aU) (v:S'.sym=S.sym) (E:(ar S'.moves).Nodup)
  (F:∀X j,(X,j)∈S'.moves->∃T:SVal,aj[j]? =some T∧o9 G (ar S.aU) X (ar T.aU)):eY G cD (· =n) (aj.set n S') dF wl bQ a:=by
 have al:=λ {j:Nat} {T:SVal} (h:aj[j]? =some T)=>PH (S':=S') b f h;have bS:∀{c:aw} {ms:a8},(∀X j,(X,j)∈ms->∃T:SVal,aj[j]? =some T∧o9 G c X (ar T.aU))->∀X j,(X,j)∈ms->∃T:SVal,(aj.set n S')[j]? =some T∧o9 G c X (ar T.aU):=λ h X j m=>by
  obtain ⟨T,w⟩:=h X j m;obtain ⟨g,y⟩:=al w.1;exact ⟨g,y.1,by rw [y.2];exact w.2⟩
 refine ⟨by simp [x.1],by simp [x.2],x.3,x.4,λ j T C p o=> ?_,λ T h=> ?_,λ j T h=> ?_,?_,λ j T h h0=> ?_,λ j h=>by rw [je];exact x.6.5 j h,x.6.6.1,x.6.6.2,?_,λ j k T U p o r H=> ?_,λ T h Y j m=> ?_,λ j T h l=> ?_,λ T h=> ?_,λ j T h l hw=> ?_⟩
 ·rcases lx p with ⟨_,r⟩ | ⟨rfl,rfl,_⟩
  ·exact x.5 j T C r o
  ·rw [f];exact x.5 j S C b o
 ·rcases mem_set h with h' | rfl
  ·exact x.6.1 T h'
  ·rw [f];exact x.6.1 S (cY b)
 ·rcases lx h with ⟨_,h'⟩ | ⟨rfl,rfl,_⟩
  ·exact x.6.2 j T h'
  ·rw [J];exact x.6.2 j S b
 ·obtain ⟨T,aD⟩:=x.6.3;have s:=aD.1
  by_cases e:0=n
  ·subst e;rw [b] at s;cases s;exact ⟨S',hP (cF.mp b).1,by rw [f];exact aD.2.1,by rw [v];exact aD.2.2⟩
  ·exact ⟨T,by rw [iS (λ h=>e h.symm)];exact s,aD.2.1,aD.2.2⟩
 ·rcases lx h with ⟨_,h'⟩ | ⟨rfl,rfl,_⟩
  ·exact x.6.4 j T h' h0
  ·rw [v,f];exact x.6.4 j S b h0
 ·have q:=PE (S':=S') b;rw [f] at q;rw [je];exact hC (.l (.a (.a .p (.w 602 .q)) .r) (.k 1204000)<| .e (.a .t .u) (.a .r .u)<| .g (.a (.a .p (.w 602 .q)) .t) (.k 1204000)) rfl x.6.6.3 q
 ·have z:∀(j:Nat) (T:SVal),(aj.set n S')[j]? =some T->∃g,aj[j]? =some g∧g.aU=T.aU:=λ j T h=>by
   rcases lx h with ⟨_,h'⟩ | ⟨rfl,rfl,_⟩
   ·exact ⟨T,h',rfl⟩
   ·exact ⟨S,b,f.symm⟩
  obtain ⟨g,t⟩:=z j T p;obtain ⟨u,A⟩:=z k U o;exact x.6.6.4 j k g u t.1 A.1 (by rw [t.2];exact r) (by rw [t.2,A.2];exact H)
 ·rcases mem_set h with h' | rfl
  ·exact bS (x.6.6.5 T h') Y j m
  ·rw [f];exact bS F Y j m
 ·rcases lx h with ⟨_,h'⟩ | ⟨rfl,rfl,_⟩
  ·exact x.6.6.6.1 j T h' l
  ·exact absurd rfl l
 ·rcases mem_set h with h' | rfl
  ·exact x.6.6.6.2 T h'
  ·exact E
 ·rcases lx h with ⟨_,h'⟩ | ⟨rfl,rfl,_⟩
  ·have d:=x.6.6.6.3 j T h' l hw;exact ⟨d.1,d.2,d.3,d.4,λ X i I=>by
    obtain ⟨U,B⟩:=d.5 X i I;obtain ⟨u,D⟩:=al B.1;exact ⟨u,D.1,by rw [D.2];exact B.2⟩⟩
  ·exact absurd rfl l
noncomputable abbrev pb (G:au) (n:Nat) (jJ:aS) (es:a8) (k:Nat) (aj:b9) (bQ:cO) (S:SVal):Prop:=eT (aj[n]? =some S) (S.items=es) (S.bP=G.dv es) (S.r2=ea (ar (G.dv es))) (Sub jJ S.aU) (gR (S.aU=jJ∨bQ[n]? =some true) (ar S.moves=(G.syms es).take k∨ar S.moves=G.syms es) (∀X j,X∈(G.syms es).take k->(X,j)∈S.moves->∃T:SVal,aj[j]? =some T∧Sub (G.goto es X) T.aU))
theorem pb.B9 {n:Nat} {k:Nat} (x:pb G n jJ es k aj bQ S) (v:pa aj g8 bQ hu):∃K',pb G n jJ es k g8 hu {S with aU:=K'}:=by
 obtain ⟨K',c⟩:=v n S x.1;have d:=c.2.2.1;refine ⟨K',c.1,x.2,x.3,x.4,x.5.trans c.2.1,?_,x.6.2,λ X j a b=> ?_⟩
 ·rcases d with rfl | d
  ·exact x.6.1.imp id c.2.2.2
  ·exact .inr d
 ·obtain ⟨T,e⟩:=x.6.3 X j a b;obtain ⟨L,aD⟩:=v j T e.1;exact ⟨_,aD.1,e.2.trans aD.2.1⟩
theorem eY.items {aj:b9} (x:eY G cD (· =n) aj dF wl bQ a) (b:aj[n]? =some S) (aI:c1 G G.bN G.bR S.aU es) (ao:S.moves=[]∨vQ G (ar S.aU) (ar S.moves)):
  eY G cD (· =n) (aj.set n ⟨S.num,S.aU,S.sym,es,S.moves,G.dv es,ea (ar (G.dv es))⟩) dF wl bQ a∧pb G n S.aU es 0 (aj.set n ⟨S.num,S.aU,S.sym,es,S.moves,G.dv es,ea (ar (G.dv es))⟩) bQ ⟨S.num,S.aU,S.sym,es,S.moves,G.dv es,ea (ar (G.dv es))⟩:=by
 have c:=cY b;refine ⟨x.alter b rfl rfl rfl (x.6.6.6.2 S c) (x.6.6.5 S c),hP (cF.mp b).1,rfl,rfl,rfl,Sub.refl _,.inl rfl,?_,λ X j h=>by simp at h⟩
 rcases ao with ao | ao
 ·left;dsimp only;rw [ao];rfl
 ·exact .inr (ao.eq aI.r9)
theorem adA {X:Nat}:ar (d5 ms X j)=if X∈ar ms then ar ms else ar ms++[X]:=by
 unfold d5
 by_cases h:X∈ar ms
 ·rw [if_pos h,if_pos (ey.mpr h)];unfold ar;rw [e5];refine kf λ p _=> ?_;simp only [wU]
  by_cases e:p.1=X
  ·simp [e]
  ·simp [e]
 ·rw [if_neg h,if_neg (λ e=>h (ey.mp e))];simp [ar]
theorem take_succ_get {k X:Nat} (h:l[k]? =some X):l.take (k+1)=l.take k++[X]:=by rw [og,h];rfl
theorem eY.move (x:eY G cD (· =n) aj dF wl bQ a) (aI:c1 G G.bN G.bR jJ es) {k:Nat} (y:pb G n jJ es k aj bQ S) {X j:Nat} (b:(G.syms es)[k]? =some X) {T:SVal} (f:aj[j]? =some T) (g:Sub (G.goto es X) T.aU):
  eY G cD (· =n) (aj.set n {S with moves:=d5 S.moves X j}) dF wl bQ a∧pb G n jJ es (k+1) (aj.set n {S with moves:=d5 S.moves X j}) bQ {S with moves:=d5 S.moves X j}:=by
 have l:=cY y.1;have m:=BM (x.6.6.6.2 S l) X j;have al:=λ {i:Nat} {U:SVal} (h:aj[i]? =some U)=>PH (S':={S with moves:=d5 S.moves X j}) y.1 rfl h;have o:∀Y i,(Y,i)∈d5 S.moves X j->(Y=X∧i=j)∨(Y≠X∧(Y,i)∈S.moves):=λ Y i h=>by
  have:=ew m h;rw [oX] at this
  by_cases e:Y=X
  ·rw [if_pos e] at this;cases this;exact .inl ⟨e,rfl⟩
  ·rw [if_neg e] at this;exact .inr ⟨e,g4 this⟩
 have r:X∉(G.syms es).take k:=λ h=>by
  obtain ⟨i,c,e⟩:=mi h;rw [mj] at c;rw [aip] at e;obtain ⟨J,d⟩:=cF.mp b;exact fR 0 (ci (.l (.s .p) .q<| .f .p .r<| .l .q .r<| .g .o (.k 0) (n:=0)) rfl c ((qF (h₀:=eZ (.l (.s .p) .q<| .l (.s .r) .t<| .l .q .r<| .g (.s .p) .t) rfl c J (oa _ _)) (h₁:=J) (Gn es)).mp (e.trans d.symm)) (oa _ _))
 refine ⟨x.alter y.1 rfl rfl rfl m λ Y i h=> ?_,hP (cF.mp y.1).1,y.2,y.3,y.4,y.5,y.6.1,?_,λ Y i J d=> ?_⟩
 ·rcases o Y i h with ⟨rfl,rfl⟩ | ⟨_,h⟩
  ·exact ⟨T,f,by rw [<- y.5.1,<- g.1];exact aI.go Y⟩
  ·exact x.6.6.5 S l Y i h
 ·dsimp only;rw [adA,take_succ_get b];rcases y.6.2 with h | h
  ·left;rw [h,if_neg r]
  ·right;rw [h,if_pos (cY b)]
 ·rcases o Y i d with ⟨rfl,rfl⟩ | ⟨s,h⟩
  ·obtain ⟨t,p⟩:=al f;exact ⟨t,p.1,by rw [p.2];exact g⟩
  ·rw [take_succ_get b] at J;rcases c6.mp J with J | J
   ·obtain ⟨U,q⟩:=y.6.3 Y i J h;obtain ⟨u,aD⟩:=al q.1;exact ⟨u,aD.1,by rw [aD.2];exact q.2⟩
   ·rw [b3] at J;exact absurd J s
theorem eY.finish (x:eY G cD (· =n) aj dF wl bQ a) (aI:c1 G G.bN G.bR jJ es) {k:Nat} (y:pb G n jJ es k aj bQ S) (ao:(G.syms es).length<=k):eY G cD (λ _=>False) aj dF wl bQ a:=by
 have b:ar S.moves=G.syms es:=by
  rcases y.6.2 with h | h
  ·rw [h,wY ao]
  ·exact h
 refine ⟨x.1,x.2,x.3,x.4,x.5,x.6.1,x.6.2,x.6.3,x.6.4,x.6.5,x.6.6.1,x.6.6.2,x.6.6.3,x.6.6.4,x.6.6.5,λ i T h _=> ?_,x.6.6.6.2,λ i T h _ hw=> ?_⟩
 ·by_cases e:i=n
  ·subst e;rw [y.1] at h;cases h;right;rw [b,<- y.5.1];exact aI.r9
  ·exact x.6.6.6.1 i T h e
 ·by_cases e:i=n
  ·subst e;rw [y.1] at h;cases h;have d:S.aU=jJ:=y.6.1.elim id λ h=>by rw [hw] at h;cases h
   refine ⟨by rw [d,y.2];exact aI,by rw [y.2];exact y.3,by rw [y.3];exact y.4,by rw [y.2];exact b,λ X j c=> ?_⟩
   rw [y.2];refine y.6.3 X j ?_ c;rw [wY ao,<- b];exact bH.mpr ⟨_,c,rfl⟩
  ·exact x.6.6.6.3 i T h e hw
end
section
variable {W:a0} {P:eg} {r:Nat} {E:ag->Prop} {H:ag} {Q:KE} {g:ak} {G:au} {cD:aS->Prop}
noncomputable def jR (c:aw):ai:= .tup (nats c)
theorem GQ {c d:aw} (h:jR c=jR d):c=d:=by
 unfold jR nats at h;injection h with h;exact (Jg λ x y h=>fU (ai.int.inj h)).mp h
noncomputable def idxs (cs:List aw) (c:aw):aw:=(cg cs.length).filter λ i=>decide (cs[i]? =some c)
noncomputable def l7 (cs:List aw):List (ai×aV):=cs.zipIdx.foldl (λ M p=>lu M (jR p.1) (.int (p.2:Nat))) []
theorem GR (cs:List aw) (c:aw):l7 (cs++[c])=lu (l7 cs) (jR c) (.int (cs.length:Nat)):=by
 unfold l7;rw [Tw,ki];simp
theorem GS (cs:List aw) (c d:aw):idxs (cs++[d]) c=if d=c then idxs cs c++[cs.length] else idxs cs c:=by
 unfold idxs;rw [cI,nd,wX,pD];have:(cg cs.length).filter (λ i=>decide ((cs++[d])[i]? =some c))=(cg cs.length).filter λ i=>decide (cs[i]? =some c):=by
  refine List.filter_congr λ i a=> ?_;rw [jY (fK.mp a)]
 rw [this]
 by_cases h:d=c
 ·simp [h]
 ·simp [h]
theorem GU {cs:List aw} {c:aw}:i∈idxs cs c↔cs[i]? =some c:=by
 unfold idxs;rw [kS,fK,decide_eq_true_eq];exact ⟨λ h=>h.2,λ h=>⟨(cF.mp h).1,h⟩⟩
theorem GV:∀(cs:List aw),(∀p∈l7 cs,∃c,p=(jR c,nats (idxs cs c)))∧∀c,jR c∈(l7 cs).map (·.1)↔c∈cs:=by
 refine lq ⟨λ p h=>(by cases h),λ c=>(by simp [l7])⟩ λ cs d ih=> ?_
 rw [GR];unfold lu
 by_cases h:jR d∈(l7 cs).map (·.1)
 ·rw [if_pos h];have e:((l7 cs).map λ p=>if p.1=jR d then (p.1,p.2++[ai.int (cs.length:Nat)]) else p).map (·.1)=(l7 cs).map (·.1):=by
   rw [e5];refine kf λ q _=> ?_;simp only [wU];split<;>rfl
  refine ⟨λ p a=> ?_,λ c=> ?_⟩
  ·obtain ⟨z,hz,rfl⟩:=bH.mp a;obtain ⟨c,rfl⟩:=ih.1 z hz;refine ⟨c,?_⟩;rw [GS]
   by_cases e:d=c
   ·subst e;simp [nats]
   ·have:¬jR c=jR d:=λ h=>e (GQ h).symm;simp [this,e]
  ·rw [e,ih.2,c6,b3];exact ⟨.inl,λ h'=>h'.elim id λ e=>by rw [e];exact (ih.2 d).mp h⟩
 ·rw [if_neg h];refine ⟨λ p a=> ?_,λ c=> ?_⟩
  ·rcases c6.mp a with a | a
   ·obtain ⟨c,rfl⟩:=ih.1 p a;refine ⟨c,?_⟩;rw [GS,if_neg λ e:d=c=>h (by rw [e];exact bH.mpr ⟨_,a,rfl⟩)]
   ·rw [b3] at a;subst a;refine ⟨d,?_⟩;rw [GS,if_pos rfl];have:idxs cs d=[]:=by
     rw [ait];intro i b;exact h ((ih.2 d).mpr (cY (GU.mp b)))
    rw [this];rfl
  ·rw [eR,c6,ih.2,c6,b3];simp only [fe,kU,b3];exact ⟨λ h=>h.imp id GQ,λ h=>h.imp id λ e=>by rw [e]⟩
structure l8 where
 m:ak
 eX:ak
 eE:ak
 cZ:ak
 hd:ak
 tO:ak
 q8:ak
 most:Nat
noncomputable def GW:Shape:= .key
theorem PI (c:aw):GW.has (jR c):=by
 exact ⟨_,rfl,λ x a=>by obtain ⟨n,_,rfl⟩:=bH.mp a;exact .inl ⟨_,rfl⟩⟩
noncomputable def jS (aj:b9):List aw:=aj.map λ S=>ar S.aU
theorem GX {S':SVal} (h:aj[i]? =some S) (e:ar S'.aU=ar S.aU):jS (aj.set i S')=jS aj:=by
 unfold jS;rw [wR,e];have:(aj.map λ S=>ar S.aU)[i]? =some (ar S.aU):=by rw [ff,h];rfl
 obtain ⟨J,a⟩:=cF.mp this;rw [<- a,DI]
theorem eM.GY (x:eM H aZ aj) (c:aZ[i]? =some aA) (k:aj[i]? =some S) {K':aS} (ao:ar K'=ar S.aU) {fs:bp->Option ai} (l:H aA.x=some (.inst .hj fs)):
  eM (H.upd aA.x (.inst .hj λ f=>if f= .kernel then some (cS K') else fs f)) aZ (aj.set i {S with aU:=K'}):=by
 have w:=(cF.mp c).1;have y:=cY c;refine ⟨by simp [x.1],λ j σ T a b=> ?_,x.3,x.4,x.5⟩
 have d:=x.2 i aA S c k;rcases lx b with ⟨m,n⟩ | ⟨rfl,rfl,_⟩
 ·have z:=x.2 j σ T a n;have g:=d.yE z;exact z.Gu (X:=(· =aA.x)) ((gw.refl _ H).upd rfl) (λ e=>m (yF x.3 a c e)) (λ e=>g.1 e.symm) (λ e=>g.2.1 e.symm) (λ e=>g.2.2.1 e.symm) λ e=>g.2.2.2 e.symm
 ·rw [c] at a;cases a;have aD:=d.yE d;obtain ⟨⟨A,h,o,B,p,q,r,s,t,u⟩,a2,bA,cW,v⟩:=d;rw [l] at h;cases h;exact ⟨⟨_,ag.fL ..,o,by simp,by dsimp only;rw [ao];exact p,q,r,s,t,u⟩,by rw [ag.er _ _ (hy aD.1)];exact a2,by rw [ag.er _ _ (hy aD.2.1)];exact bA,by rw [ag.er _ _ (hy aD.2.2.1)];exact cW,by rw [ag.er _ _ (hy aD.2.2.2)];exact v⟩
theorem adB:∀(cs:List aw),(l7 cs).length<=cs.length:=by
 refine lq (dn _) λ cs d ih=> ?_;rw [GR,cI,nd];unfold lu
 split
 ·rw [cz];exact DD ih
 ·rw [cI,nd];exact ug ih
theorem eM.adC (x:eM B aZ aj) {b:ak} (h:B b=some (.list vs)) (c:∀σ∈aZ,b≠σ.re):eM (B.upd b o) aZ aj:=
 ⟨x.1,λ i aA S a d=>by
  have y:=x.2 i aA S a d;obtain ⟨fs,F⟩:=y.1;exact y.Gu (X:=(· =b)) ((gw.refl _ B).upd rfl) (λ e=>by rw [<- e,F.1] at h;cases h) (λ e=>by rw [<- e,y.2] at h;cases h) (λ e=>by rw [<- e,y.3] at h;cases h) (λ e=>by rw [<- e,y.4] at h;cases h) λ e=>c aA (cY a) e.symm,x.3,x.4,x.5⟩
noncomputable abbrev l9 (M:l8) (D:eC) (aZ:List ck) (wl:aw) (bQ:cO):Cells:=[(10,M.cZ,.list (refs aZ)),(11,M.hd,.dict GW (f5 D)),(12,M.tO,.list (nats wl)),(13,M.q8,.list (bools bQ))]
noncomputable abbrev fI (dj B:ag) (g:ak) (M:l8) (D:eC) (aZ:List ck) (aj:b9):Prop:=eT (jP dj B aZ aj) (∃fs,dj M.m=some (.inst .jD fs)∧fs .D1=some (.ref g)∧fs .most=some (.int (M.most:Nat))∧fs .D2=some (.ref M.eX)∧fs .D3=some (.ref M.eE)∧fs .sO=some (.ref M.cZ)∧fs .D4=some (.ref M.hd)∧fs .waiting=some (.ref M.tO)∧fs .D5=some (.ref M.q8)) (kG B D) (∀p∈D,dj p.2.1=none) (g7 D=l7 (jS aj)) (∀aA∈aZ,∀p∈D,p.2.1≠aA.re)
theorem fI.more (x:fI dj B g M D aZ aj) (e:Ext B en):fI dj en g M D aZ aj:=⟨x.1.more e,x.2,x.3.ext λ p _ o h=>e _ _ h,x.4,x.5,x.6⟩
def Cb (D:eC) (aZ:List ck) (b:ak):Prop:=(∃p∈D,b=p.2.1)∨∃aA∈aZ,b=aA.x
noncomputable abbrev n3 (D:eC) (aZ:List ck) (B:ag) (c:eC) (a:List ck) (e3:ag):Prop:=A2 (∀b o,B b=some o->¬Cb D aZ b->e3 b=some o∧¬Cb c a b) (∀(i:Nat) (aA:ck),aZ[i]? =some aA->a[i]? =some aA)
theorem n3.adD (k:Ext B e3):n3 D aZ B D aZ e3:=⟨λ b o h n=>⟨k b o h,n⟩,λ _ _ h=>h⟩
theorem n3.trans {D d e:eC} {f g:List ck} {j:ag} (a:n3 D aZ B d f e3) (b:n3 d f e3 e g j):n3 D aZ B e g j:=
 ⟨λ c o h n=>b.1 c o (a.1 c o h n).1 (a.1 c o h n).2,λ i aA h=>b.2 i aA (a.2 i aA h)⟩
theorem fI.GY (x:fI dj B g M D aZ aj) (a:aZ[i]? =some aA) (c:aj[i]? =some S) {K':aS} (ao:ar K'=ar S.aU) {fs:bp->Option ai} (d:B aA.x=some (.inst .hj fs)):
  fI dj (B.upd aA.x (.inst .hj λ f=>if f= .kernel then some (cS K') else fs f)) g M D aZ (aj.set i {S with aU:=K'})∧n3 D aZ B D aZ (B.upd aA.x (.inst .hj λ f=>if f= .kernel then some (cS K') else fs f)):=
 have j:=cY a
 ⟨⟨⟨x.1.1.upd (x.1.3 aA j).1,x.1.2.GY a c ao d,x.1.3⟩,x.2,x.3.ext λ p k o h=>(ag.er _ _ λ e=>by have:=x.3.1 p k;rw [e,d] at this;cases this).trans h,x.4,by rw [GX (S':={S with aU:=K'}) c ao];exact x.5,x.6⟩,
  λ b o l n=>⟨(ag.er _ _ λ e=>n (.inr ⟨aA,j,e⟩)).trans l,n⟩,λ _ _ h=>h⟩
section
variable {C:gY} {dj B:ag} {L:Cells} {k:aJ} {st:aV} {A:du} {K:dK} {M:l8} {D:eC} {aZ:List ck} {aj:b9} {g:ak}
theorem ajJ (x:fI dj B g M D aZ aj) (q:T C B L (bb C.n k (.ref g::st) A) K):T C B L (.bi .D1::k,.ref M.m::st,A) K:=x.2.elim λ _ F=>bO (aL (x.1.1 _ _ F.1)) rfl F.2.1 q
theorem PM (x:fI dj B g M D aZ aj) (q:T C B L (bb C.n k (.int (M.most:Nat)::st) A) K):T C B L (.bi .most::k,.ref M.m::st,A) K:=x.2.elim λ _ F=>bO (aL (x.1.1 _ _ F.1)) rfl F.2.2.1 q
theorem ajK (x:fI dj B g M D aZ aj) (q:T C B L (bb C.n k (.ref M.eX::st) A) K):T C B L (.bi .D2::k,.ref M.m::st,A) K:=x.2.elim λ _ F=>bO (aL (x.1.1 _ _ F.1)) rfl F.2.2.2.1 q
theorem ajL (x:fI dj B g M D aZ aj) (q:T C B L (bb C.n k (.ref M.eE::st) A) K):T C B L (.bi .D3::k,.ref M.m::st,A) K:=x.2.elim λ _ F=>bO (aL (x.1.1 _ _ F.1)) rfl F.2.2.2.2.1 q
theorem GZ (x:fI dj B g M D aZ aj) (q:T C B L (bb C.n k (.ref M.cZ::st) A) K):T C B L (.bi .sO::k,.ref M.m::st,A) K:=x.2.elim λ _ F=>bO (aL (x.1.1 _ _ F.1)) rfl F.2.2.2.2.2.1 q
theorem adE (x:fI dj B g M D aZ aj) (q:T C B L (bb C.n k (.ref M.hd::st) A) K):T C B L (.bi .D4::k,.ref M.m::st,A) K:=x.2.elim λ _ F=>bO (aL (x.1.1 _ _ F.1)) rfl F.2.2.2.2.2.2.1 q
theorem PN (x:fI dj B g M D aZ aj) (q:T C B L (bb C.n k (.ref M.tO::st) A) K):T C B L (.bi .waiting::k,.ref M.m::st,A) K:=x.2.elim λ _ F=>bO (aL (x.1.1 _ _ F.1)) rfl F.2.2.2.2.2.2.2.1 q
theorem G0 (x:fI dj B g M D aZ aj) (q:T C B L (bb C.n k (.ref M.q8::st) A) K):T C B L (.bi .D5::k,.ref M.m::st,A) K:=x.2.elim λ _ F=>bO (aL (x.1.1 _ _ F.1)) rfl F.2.2.2.2.2.2.2.2 q
end
end
section
variable {W:a0} {P:eg} {r:Nat} {E:ag->Prop} {H:ag} {Q:KE} {g:ak} {G:au} {cD:aS->Prop}
theorem fI.push {j:ag} {D d:eC} {aZ:List ck} {aj:b9} (x:fI dj B g M D aZ aj) {T:SVal} (k:Ext B en) (q:ck.yA aA B) (A:ez en aA T) {b:ak} {vs:aV} (s:Ext en j) (t:kG j d) (f:(jR (ar T.aU),b,vs)∈d)
  (l:∀p∈d,p∈D∨(en p.2.1=none∧p.2.2=[])) (C:∀v,g7 (jO d b v)=lu (g7 D) (jR (ar T.aU)) v):
  fI dj (j.upd b (.list (vs++[.int (aj.length:Nat)]))) g M (jO d b (.int (aj.length:Nat))) (aZ++[aA]) (aj++[T])∧n3 D aZ B (jO d b (.int (aj.length:Nat))) (aZ++[aA]) (j.upd b (.list (vs++[.int (aj.length:Nat)]))):=by
 have m:=x.1.push k q A;have u:=m.more s;have w:∀p∈d,dj p.2.1=none:=λ p h=>(l p h).elim (x.4 p) λ h=>m.1.none h.1;have y:∀σ∈aZ++[aA],∀p∈d,p.2.1≠σ.re:=λ σ a p h e=>by
  rcases l p h with h' | h'
  ·rcases c6.mp a with a | a
   ·exact x.6 σ a p h' e
   ·rewrite [b3] at a;subst a;have:=x.3.1 p h';rewrite [e,q.5] at this;cases this
  ·obtain ⟨E,z⟩:=m.2.tI a;have:=z.5;rewrite [<- e,h'.1] at this;cases this
 have r:∀p∈jO d b (.int (aj.length:Nat)),∃z∈d,p.2.1=z.2.1:=λ p h=>by
  obtain ⟨z,hz,e⟩:=bH.mp (BU d b _▸bH.mpr ⟨p,h,rfl⟩:p.2.1∈d.map (·.2.1));exact ⟨z,hz,e.symm⟩
 refine ⟨⟨⟨u.1.upd (w _ f),u.2.adC (t.1 _ f) λ σ a=>y σ a _ f,m.3⟩,x.2,t.app f,λ p h=> ?_,?_,λ σ a p h=> ?_⟩,λ c o aI n=>⟨?_,?_⟩,λ i σ h=>Ca h⟩
 ·obtain ⟨z,hz,e⟩:=r p h;(rewrite [e];try (with_reducible rfl));exact w z hz
 ·(rewrite [C,x.5,show jS (aj++[T])=jS aj++[ar T.aU] from eR ..,GR,show (jS aj).length=aj.length from cz ..];try (with_reducible rfl))
 ·obtain ⟨z,hz,e⟩:=r p h;(rewrite [e];try (with_reducible rfl));exact y σ a z hz
 ·(rewrite [ag.er _ _ λ e=> ?_];try (with_reducible rfl))
  ·exact s _ _ (k _ _ aI)
  ·rcases l _ f with h | h
   ·exact n (.inl ⟨_,h,e⟩)
   ·have:=k _ _ aI;rewrite [e,h.1] at this;cases this
 ·rintro (⟨p,h,rfl⟩ | ⟨σ,a,rfl⟩)
  ·obtain ⟨z,aD⟩:=r p h;have hz:=aD.1;rcases l z hz with h' | h'
   ·exact n (.inl ⟨z,h',aD.2⟩)
   ·have:=k _ _ aI;rewrite [aD.2,h'.1] at this;cases this
  ·rcases c6.mp a with h | h
   ·exact n (.inr ⟨σ,h,rfl⟩)
   ·rewrite [b3] at h;subst h;rewrite [q.1] at aI;cases aI
theorem PO (Z:Base W P) {M:l8} {D:eC} {aZ:List ck} {aj:b9} {wl:aw} {bQ:cO} (x:fI dj B g M D aZ aj) (f:Fr B (l9 M D aZ wl bQ) H) {sym:Int} (cw:K.length<=100) (d:aj.length<2000) (hw:wl.length<lim) (v:bQ.length<lim) (y:M.most=2∨M.most=2000)
  (z:M.most<=aj.length->∀aa,Ext dj aa->E aa)
  (q:aj.length<M.most->∀aA j e3 aa,fI dj e3 g M j (aZ++[aA]) (aj++[⟨aj.length,K,sym,[],[],[],[]⟩])->n3 D aZ B j (aZ++[aA]) e3->Fr e3 (l9 M j (aZ++[aA]) (wl++[aj.length]) (bQ++[true])) aa->Q (.int (aj.length:Nat)) aa):
  dw W (r+3) .w2 [.ref M.m,cS K,.int sym] H Q E:=by
 refine x.2.elim λ fs F=> ?_;refine ZQ Z (F5 5 f rfl<|GZ x<|iN (rc 10 rfl) ((qo _).trans x.1.2.1) (by unfold lim;exact bF (bX d (by decide)))<|PM x<|fv (λ h=> ?_) λ h=> ?_)
 ·have J:(bj (CX ((M.most:Nat):Int))).length<=20:=by rcases y with h | h<;>rw [h]<;>decide+kernel
  have O:(bj "more than ").length<=20:=by decide
  have R:(bj " states").length<=20:=by decide
  exact PM x<|abr (bX (a9 (mf.mp h) d) (by decide))<|NV (ct (.l .p (.k 20)<| .g (.a (.k 10) .p) (.k 1000)) rfl J)<|NV (bD (.l .p (.k 20)<| .e .q (.a (.k 10) .p)<| .g (.a .q (.k 7)) (.k 1000)) rfl J (Array.size_append:(bj "more than "++bj (CX ((M.most:Nat):Int))).length=(bj "more than ").length+(bj (CX ((M.most:Nat):Int))).length))<|abq (uf ..) λ aa k=>z (mf.mp h) aa λ a o h=>k.1 _ _ (x.1.1 _ _ h)
 refine B1 Z cw λ aA en l A m=> ?_;have t:=l _ _ (x.1.1 _ _ F.1);have cl:(jS aj).length=aj.length:=cz ..;have C:∀p∈D,p.2.2.length<=aj.length:=λ p n=>by
  have:(p.1,p.2.2)∈g7 D:=bH.mpr ⟨p,n,rfl⟩;rw [x.5] at this;obtain ⟨c,e⟩:=(GV _).1 _ this;rw [(aie e).2,eu,<- cl];exact bB (qN ..) (bE (gy ..))
 have G:D.length<=aj.length:=by
  have J:=adB (jS aj);rwa [<- x.5,cl,show (g7 D).length=D.length from cz ..] at J
 refine m.1.elim λ S g1=> ?_;refine bO (aL t) rfl F.2.2.2.2.2.1<|fl (rc 10 rfl) rfl<|g0 10 rfl (by rw [qo];unfold lim;exact bX (a9 (bE x.1.2.1) d) (by decide)) (GC _ aA).symm<|bO (aL t) rfl F.2.2.2.2.2.2.1<|rP (rc 11 rfl) rfl<|yB m<|Gr 11 rfl (x.3.ext λ p _ o h=>l _ _ h) (PI _) (by unfold lim;exact bX (a9 G d) (by decide)) λ b T I vs L s i u n=> ?_
 have N:vs.length<lim:=by
  rcases u _ i with h | h
  ·exact a9 (C _ h) (by unfold lim;exact bX d (by decide))
  ·rw [show vs=[] from h.2];decide
 have X:=x.push l A m L s i u n;have U:=X.1.1.1 _ _ F.1;rw [<- BS I b (.int (aj.length:Nat))];refine fl (aL (s.1 _ i)) rfl<|yn (s.1 _ i) N rfl<|PN X.1<|fl (rc 12 rfl) rfl<|g0 12 rfl (by rw [eu];exact hw) (lg _ [_]).symm<|G0 X.1<|fl (rc 13 rfl) rfl<|g0 (ys:=bools (bQ++[true])) 13 rfl (by rw [rL];exact v) (by simp [bools])<|e9 λ aa k=> ?_
 exact q (IC λ w=>h (mf.mpr w)) aA _ _ aa X.1 X.2 (k.sel [10,11,12,13])
end
section
variable {W:a0} {P:eg} {r:Nat} {E:ag->Prop} {H:ag} {Q:KE} {g:ak} {G:au} {cD:aS->Prop}
theorem Cc (K:aS):∀y∈K.map h5,d1 4 y:=λ y a=>by
 obtain ⟨p,_,rfl⟩:=bH.mp a;exact .tup (kg.mpr ⟨.int,kg.mpr ⟨.int,λ _ h=>(by cases h)⟩⟩)
theorem PP {C:gY} {L:Cells} {k:aJ} {st:aV} {K':dK} {aK:aS} (q:T C B L (bb C.n k (.bool (!decide (K=aK))::st) A) K'):T C B L (.cmp .NotEq::k,cS aK::cS K::st,A) K':=λ l H z f=>gm.ne (tF K▸tF aK▸.tup ⟨Cc K,Cc aK⟩ (decide_eq_decide.mpr (Jg λ x y h=>Gw h)▸q.go z f))
theorem kG.adG (x:kG B D) {cs:List aw} (h:g7 D=l7 cs) (c:aw):(∃a,cU (f5 D) (jR c)=some (.ref a)∧B a=some (.list (nats (idxs cs c))))∨(cU (f5 D) (jR c)=none∧idxs cs c=[]):=by
 by_cases aI:jR c∈D.map (·.1)
 ·obtain ⟨p,b,e⟩:=bH.mp aI;refine .inl ⟨p.2.1,(yz x.2).1 p b e,?_⟩;have:(p.1,p.2.2)∈l7 cs:=by rw [<- h];exact bH.mpr ⟨p,b,rfl⟩
  obtain ⟨d,f⟩:=(GV cs).1 _ this;injection f with g j;rw [x.1 p b,j,GQ (g.symm.trans e)]
 ·refine .inr ⟨(yz x.2).2 aI,ait.mpr λ i k=> ?_⟩;rw [<- vL,h,(GV cs).2] at aI;exact aI (cY (GU.mp k))
theorem adH (Z:Base W P) (O:l6 G cD) (Y:G.Ok) (x:fI dj B g M D aZ aj) (f:Fr B (l9 M D aZ wl bQ) H) (p:eY G cD ex aj dF wl bQ a)
  {K:aS} {X:Nat} {old:Int} (cw:cD K) (bJ:K≠[]) (aC:∀k∈ar K,∃j,k=j+1∧G.cC j=some X) (hex:¬ex aj.length) (hold:old= -1∨dB λ (j:Nat) (T:SVal)=>old=(j:Nat)∧aj[j]? =some T∧ar T.aU=ar K) (hm:M.most=2∨M.most=2000) (az:aj.length<=M.most)
  (fX:M.most=2->∀aa,Ext dj aa->E aa)
  (q:∀(j:Nat) R ma g8 G1 kJ hu e3 aa,fI dj e3 g M R ma g8->Fr e3 (l9 M R ma kJ hu) aa->eY G cD ex g8 G1 kJ hu a->pa aj g8 bQ hu->(∃T:SVal,g8[j]? =some T∧Sub K T.aU)->n3 D aZ B R ma e3->g8.length<=M.most->Q (.int (j:Nat)) aa):
  dw W (r+4) .DW [.ref M.m,cS K,.int (X:Nat),.int old] H Q E:=by
 refine x.2.elim λ fs F=> ?_;have qi:=(O.1 K cw).len Y;have cnt:=p.cnt O;have hlen:=x.1.2.1;have cl:(jS aj).length=aj.length:=cz ..;have Cd:∀{i:Nat},i∈idxs (jS aj) (ar K)↔∃S:SVal,aj[i]? =some S∧ar S.aU=ar K:=λ {i}=>by
  rw [GU];unfold jS;rw [ff];cases aj[i]? with
  | none=>simp
  | some S=>simp
 have m:(idxs (jS aj) (ar K)).length<=2000:=bB (qN ..) (by rw [gy,cl];exact bF cnt)
 have body:∀(A:ak) (u:aw),u.length<=2001->(∀i∈u,∃S:SVal,aj[i]? =some S∧ar S.aU=ar K)->(∀(i:Nat) (S:SVal),aj[i]? =some S->ar S.aU=ar K->i∈u)->
   T ⟨W,r+3,E,9⟩ B ((5,A,.list (nats u))::l9 M D aZ wl bQ) (bb 9 [.ae 5,.each (.one 6) MJ,.ae 0,.cG (.o .jD .w2),.ae 1,.ae 2,.cj true (.o .jD .w2) 2,.ret] [] [(0,.ref M.m),(1,cS K),(2,.int (X:Nat)),(5,.ref A)]) (rQ Q):=λ A u _ adI adJ=>by
  refine eL (ys:=u) (c0:=λ n:Nat=> .int n) [5,10,11,12,13] [0,1,2] (cQ:=λ _ _=>B) (cR:=λ _ _=>(5,A,.list (nats u))::l9 M D aZ wl bQ) (lf:=λ _ _=>[(0,.ref M.m),(1,cS K),(2,.int (X:Nat))])
   (λ d _ (_:Unit)=>∀i∈d,∀S:SVal,aj[i]? =some S->¬il S.aU K) () (li (rc 5 rfl) λ _ _=>rc 5 rfl) rfl rfl rfl (λ _ h=>hQ h) (λ d i e _ K' hd I b1 hJ=>⟨_,rfl,?_⟩) λ _ I=> ?_
  rotate_left
  ·have PQ:=p.add O Y cw bJ aC (λ S b7 ao=>(oh b7).elim λ i C=>I i (adJ i S C ao) S C:∀S∈aj,ar S.aU=ar K->¬il S.aU K) hex;exact p9 (aL (x.1.1 _ _ F.1))<|mN rfl λ l H1 z U=>PO Z x (U.sel [10,11,12,13]) (bF (a9 qi (by decide))) cnt (by unfold lim;exact a9 (bB (bB (fJ _ _) (fJ _ _)) p.6.6.3) (by decide)) (by unfold lim;exact bX (a9 (bE p.2) cnt) (by decide)) hm (λ h aa e=>fX (hm.resolve_right λ e=>iP _ (a9 (e▸h:2000<=aj.length) (bX PQ.1 (by decide)))) aa e) λ bK aA R e3 aa y k v=>q aj.length R _ _ _ _ _ e3 aa y v PQ.2 PA ⟨⟨aj.length,K,(X:Nat),[],[],[],[]⟩,by simp,Sub.refl _⟩ k (by rw [cI];exact bK)
  obtain ⟨S,c⟩:=adI i (by rw [hd];simp)
  have m:=(cF.mp c.1).1;obtain ⟨aA,S',aQ⟩:=x.1.2.get m;have pO:=aQ.2.1;have y:=aQ.2.2.1;rw [c.1] at pO;cases pO;refine y.1.elim λ fj p7=> ?_;have Ce:S.aU.length=K.length:=by
   have:=congrArg gz c.2;rwa [f3,f3] at this
  refine GZ x<|d4 (rc 10 rfl) (bX (bX m cnt) (by decide)) (o8 aQ.1)<|BW y<|fm rfl rfl λ l H1 z U=>OS Z (bF (a9 (bB (bE Ce) qi) (by decide))) Ce.symm λ dG a5=>T.go (fv (λ hw=> ?_) λ hw=> ?_) z (U.more a5)
  rotate_left
  ·exact cK (b1 () λ j s T L=>(c6.mp s).elim (λ s=>I j s T L) λ s=>by rw [b3] at s;subst s;rw [c.1] at L;cases L;exact hw) rfl rfl
  refine BW y<|fm rfl rfl λ l H1 z U=>OU Z (bF (a9 (bB (bE Ce) qi) (by decide))) Ce.symm λ dG a5=>T.go ?_ z (U.more a5)
  refine BW y<|PP<|iM (λ bc=> ?_) λ bc=> ?_
  ·exact hJ<|e9 λ aa v=>q i D aZ aj dF wl bQ B aa x (v.sel [10,11,12,13]) p (pa.refl _ _) ⟨S,c.1,ads c.2 bc⟩ (n3.adD (Ext.refl B)) az
  have t:=x.GY aQ.1 c.1 (K':=c3 S.aU K) (kH ..) p7.1;have ajM:=t.1.1.1 _ _ F.1;have V:i<bQ.length:=bx m (bE p.2.symm);have ER:bQ.getD i false=bQ[i]:=by rw [eS,c4 V];rfl
  have PR:bQ[i]? =some bQ[i]:=c4 V;have L:=λ (n:Nat) (S':SVal)=>(hP m:(aj.set i S')[i]? =some S');have uP:(aj.set i {S with aU:=c3 S.aU K}).length<=M.most:=by rw [je];exact az
  refine abv p7.1 rfl<|G0 t.1<|d4 (rc 13 rfl) (bX (bX m cnt) (by decide)) (Bz V)<|nP (λ o=> ?_) λ o=> ?_
  ·rw [ER] at o;rw [o] at PR;have adK:bQ.set i true=bQ:=by have:=DI V;rw [o] at this;exact this
   have N:=p.grow O Y c.1 cw c.2 hw bc rfl (.inl ⟨PR,rfl⟩);rw [adK] at N;exact hJ<|e9 λ aa v=>q i D aZ _ dF wl bQ _ aa t.1 (v.sel [10,11,12,13]) N.1 N.2 ⟨_,L i _,GO c.2⟩ t.2 uP
  ·have N:=p.grow O Y c.1 cw c.2 hw bc rfl (.inr rfl);exact G0 t.1<|vF 13 rfl (by rw [rL];exact V) (by rw [rL];unfold lim;exact bF (bX (a9 (bE p.2) cnt) (by decide))) (BA ..)<|PN t.1<|fl (rc 12 rfl) rfl<|g0 12 rfl (by rw [eu];unfold lim;exact a9 (bB (bB (fJ _ _) (fJ _ _)) p.6.6.3) (by decide)) (lg _ [_]).symm<|hJ<|e9 λ aa v=>q i D aZ _ dF _ _ _ aa t.1 (v.sel [10,11,12,13]) N.1 N.2 ⟨_,L i _,GO c.2⟩ t.2 uP
 refine ZR Z (F5 9 f rfl<|ON 4 (bF (a9 qi (by decide))) λ iI=>adE x<|rP (rc 11 rfl) rfl<|fw 20 rfl λ hM=> ?_)
 have o:∃b,(cU (f5 D) (.tup (nats (ar K)))).getD (.ref hM)= .ref b∧dD B ((20,hM,.list [])::(4,iI,.list (nats (ar K)))::l9 M D aZ wl bQ) b (.list (nats (idxs (jS aj) (ar K)))):=by
  rcases x.3.adG x.5 (ar K) with ⟨b,J,w⟩ | ⟨J,w⟩
  ·exact ⟨b,by rw [show cU (f5 D) (.tup (nats (ar K)))=some (.ref b) from J];rfl,aL w⟩
  ·exact ⟨hM,by rw [show cU (f5 D) (.tup (nats (ar K)))=none from J];rfl,w▸rc 20 rfl⟩
 refine o.elim λ b o=>tB (rc 11 rfl) (PI _) o.1<|F2 5 o.2 (by rw [eu];unfold lim;exact bF (a9 m (by decide))) λ A=>fv (λ h=> ?_) λ h=> ?_
 ·rcases hold with rfl | ⟨j,T,rfl,s,adL⟩
  ·exact absurd h (by decide)
  exact fw 21 rfl λ dI=>BG (zs:=nats (j::idxs (jS aj) (ar K))) 5 (rc 21 rfl) (rc 5 rfl) (by rw [eu];unfold lim;simp only [f7,TA];exact ct (.l .p (.k 2000)<| .g (.a .o .p) (.k 16000000)) rfl m) rfl λ hI=>j4 [5,10,11,12,13] [0,1,2,5] rfl rfl<|body hI (j::idxs (jS aj) (ar K)) (ug m) (λ i C=>(dZ.mp C).elim (λ e=>e▸⟨T,s,adL⟩) Cd.mp) λ i S J w=> .tail _ (Cd.mpr ⟨S,J,w⟩)
 ·exact j4 [5,10,11,12,13] [0,1,2,5] rfl rfl<|body A (idxs (jS aj) (ar K)) (bF (a9 m (by decide))) (λ i C=>Cd.mp C) λ i S J w=>Cd.mpr ⟨S,J,w⟩
end
section
variable {W:a0} {P:eg} {r:Nat} {E:ag->Prop} {H:ag} {Q:KE} {g:ak} {G:au} {cD:aS->Prop}
theorem fI.items {D:eC} {aZ:List ck} {aj:b9} (x:fI dj B g M D aZ aj) {i:Nat} {S':SVal} (c:aZ[i]? =some aA) (d:aj[i]? =some S) (ao:S'.aU=S.aU) (k:gw (· =aA.x) B en) (y:ez en ⟨aA.x,it,aA.bS,c2,re⟩ S')
  (f:∀σ∈aZ,σ.bS≠it) (b:∃fs,B aA.x=some (.inst .hj fs)) (j:B c2=none) (l:B re=none):fI dj en g M D (aZ.set i ⟨aA.x,it,aA.bS,c2,re⟩) (aj.set i S'):=by
 obtain ⟨fs,b⟩:=b;refine ⟨x.1.items c k y f j,x.2,x.3.ext λ p a o h=>k _ _ (λ e=>by have:=x.3.1 p a;rw [e,b] at this;cases this) h,x.4,by rw [GX d (by rw [ao])];exact x.5,λ σ m p a=> ?_⟩
 rcases mem_set m with h | rfl
 ·exact x.6 σ h p a
 ·intro e;have:=x.3.1 p a;rw [show p.2.1=re from e,l] at this;cases this
theorem fI.moves {aj:b9} (x:fI dj B g M D aZ aj) {i:Nat} (b:aZ[i]? =some aA) (a:aj[i]? =some S) (c:B aA.bS=some (.dict .int (dJ S.moves))) (bS:a8):fI dj (B.upd aA.bS (.dict .int (dJ bS))) g M D aZ (aj.set i {S with moves:=bS}):=
 ⟨x.1.moves b a bS,x.2,x.3.ext λ p d o h=>(ag.er _ _ λ e=>by have:=x.3.1 p d;rw [e,c] at this;cases this).trans h,x.4,by rw [GX (S':={S with moves:=bS}) a rfl];exact x.5,x.6⟩
theorem pb.GD {k:Nat} {b:aS} (O:G.Ok) (y:pb G n jJ es k aj bQ S) (cl:c1 G nul aT b es):S.moves.length<=12:=by
 have a:=yI O λ z hz=>(cl.4 z.1 z.2 (ew cl.1 hz)).1;rcases y.6.2 with h | h
 ·have:=congrArg gz h;rw [f3,mj] at this;exact ci (.l .p (.k 12)<| .e .q .r<| .l .r .p<| .g .q (.k 12)) rfl a this (wu _ _)
 ·have:=congrArg gz h;rw [f3] at this;exact bB (bE this) a
structure Cf where
 B:ag
 D:eC
 r:List ck
 S:b9
 C:List aS
 w:aw
 i:cO
noncomputable abbrev adM (g:ak) (G:au) (cD:aS->Prop) (dj:ag) (M:l8) (n:Nat) (s:Cf×Nat):Prop:=iV (n=1204000 - s.2) (fI dj s.1.B g M s.1.D s.1.r s.1.S) (eY G cD (λ _=>False) s.1.S s.1.C s.1.w s.1.i s.2) (s.1.S.length<=M.most)
noncomputable abbrev adN (g:ak) (G:au) (cD:aS->Prop) (dj:ag) (M:l8) (m a:Nat) (K:aS) (es:a8) (aA:ck) (hK:ak) (k:Nat) (u:Cf×SVal):Prop:=eT (fI dj u.1.B g M u.1.D u.1.r u.1.S) (eY G cD (· =m) u.1.S u.1.C u.1.w u.1.i (a+1)) (pb G m K es k u.1.S u.1.i u.2) (u.1.r[m]? =some aA) (u.1.B hK=some (.list ((G.syms es).map λ (X:Nat)=> .tup [.int X,cS (G.goto es X)]))) (A2 (¬Cb u.1.D u.1.r hK) (u.1.S.length<=M.most))
theorem adO (Z:Base W P) (O:l6 G cD) (v:G.Ok) (N:dS dj g G) (rX:qh dj G M.eX M.eE G.bN G.bR) (x:fI dj B g M D aZ aj) (f:Fr B (l9 M D aZ wl bQ) H) (p:eY G cD (λ _=>False) aj dF wl bQ 0) (hm:M.most=2∨M.most=2000) (w:aj.length<=M.most)
  (fX:M.most=2->∀aa,Ext dj aa->E aa)
  (q:∀iO ma g8 G1 R hu e3 aa,fI dj e3 g M iO ma g8->Fr e3 (l9 M iO ma R hu) aa->eY G cD (λ _=>False) g8 G1 R hu R.length->g8.length<=M.most->Q .none aa):
  dw W (r+5) .DX [.ref M.m] H Q E:=by
 refine x.2.elim λ fs F=> ?_;refine ZS Z (F5 6 f rfl<|rS [10,11,12,13] [0,1] (cQ:=λ s:Cf×Nat=>s.1.B) (cR:=λ s=>l9 M s.1.D s.1.r s.1.w s.1.i) (lf:=λ s=>[(0,.ref M.m),(1,.int (s.2:Nat))])
  (adM g G cD dj M) _ (⟨B,D,aZ,aj,dF,wl,bQ⟩,0) rfl rfl rfl ⟨rfl,x,p,w⟩ ?_)
 rintro n ⟨⟨B,D,aZ,aj,dF,wl,bQ⟩,a⟩ K' I b1 j8 _;have yP:=I.1;have x:=I.2;have p:=I.3;have w:=I.4;dsimp only at yP x p w j8 ⊢;have c:=x.1.1 _ _ F.1;have tQ:=p.6.6.2;have cnt:=p.cnt O;refine bO (aL c) rfl F.2.2.2.2.2.2.2.1<|iN (rc 12 rfl) (eu _) (by unfold lim;exact bF (a9 (bB (bB (fJ _ _) (fJ _ _)) p.6.6.3) (by decide)))<|fv (λ bK=> ?_) λ bK=>j8 (vG λ aa gf=>q D aZ aj dF wl bQ B aa x (gf.sel [10,11,12,13]) ((show a=wl.length from dg tQ (fD λ q=>bK (hx.mpr q)))▸p) w)
 have bK:a<wl.length:=hx.mp bK;obtain ⟨m,V⟩:∃m,wl[a]? =some m:=⟨_,c4 bK⟩;have Y:m<aj.length:=p.6.5 m (cY V);obtain ⟨aA,S,b⟩:=x.1.2.get Y;have c9:=p.6.1 S (cY b.2.1);have gO:=O.1 _ c9;refine b.2.2.1.1.elim λ fj A=> ?_;refine bO (aL c) rfl F.2.2.2.2.2.2.2.1<|d4 (rc 12 rfl) (a9 (bB (bB (bB tQ (fJ _ _)) (fJ _ _)) p.6.6.3) (by decide)) (by rw [show (nats wl)[a]? =some (.int (m:Nat)) by simp [nats,V]])<|bO (aL c) rfl F.2.2.2.2.2.2.2.2<|vF 13 rfl (by rw [rL];exact bx Y (bE p.2.symm)) (by rw [rL];unfold lim;exact bF (bX (a9 (bE p.2) cnt) (by decide))) (BA ..)<|bO (aL c) rfl F.2.2.2.2.2.1<|d4 (rc 10 rfl) (bX (bX Y cnt) (by decide)) (o8 b.1)<|p9 (aL A.1)<|bO (aL c) rfl F.2.1<|bO (aL c) rfl F.2.1<|bO (aL A.1) rfl A.2.2.1<|bO (aL c) rfl F.2.2.2.1<|bO (aL c) rfl F.2.2.2.2.1<|O2 Z v (N.ext x.1.1) (rX.ext x.1.1) gO.nodup gO.2 λ it es hit cl=> ?_
 have r6:Ext B (B.upd it (.dict .int (dJ es))):= .new hit;have yQ:=x.more r6;refine Gz Z v N yQ.1.1 (x.1.3 aA b.2.2.2).1 (b.2.2.1.ext r6) (ag.fL ..) cl.1 cl.4 λ c2 re GI C h7 o6 tK=> ?_;have y:=yQ.items (S':=⟨S.num,S.aU,S.sym,es,S.moves,G.dv es,ea (ar (G.dv es))⟩) b.1 b.2.1 rfl C tK (λ σ h e=>(x.1.2.tI h).elim λ U z=>by have:=z.3;rw [e,hit] at this;cases this) ⟨_,r6 _ _ A.1⟩ h7 o6
 have PS:=(p.begin V).items b.2.1 cl (p.6.6.6.1 m S b.2.1 id);refine tK.1.elim λ aC h0=> ?_;refine bO (aL (y.1.1 _ _ F.1)) rfl F.2.1<|bO (aL h0.1) rfl h0.2.2.2.2.2.1<|fm rfl rfl λ l H1 z t=>OL Z v (N.ext λ a o h=>t.1 _ _ (y.1.1 _ _ h)) (t.1 _ _ tK.2) cl.1 cl.4 λ hK dG a5 hp af=>T.go ?_ z (t.yf a5 hp af);have G3:GI hK=none:=t.1.none hp;have adP:¬Cb D (aZ.set m ⟨aA.x,it,aA.bS,c2,re⟩) hK:=by
  rintro (⟨p,ax,rfl⟩ | ⟨σ,fG,rfl⟩)
  ·have:=y.3.1 p ax;rw [G3] at this;cases this
  ·obtain ⟨U,⟨us,u,_⟩,_⟩:=y.1.2.tI fG;rw [G3] at u;cases u
 refine eL (ys:=G.syms es) (c0:=λ X:Nat=> .tup [.int X,cS (G.goto es X)]) [10,11,12,13] [0,1,2,3] (cQ:=λ _ (u:Cf×SVal)=>u.1.B) (cR:=λ _ u=>l9 M u.1.D u.1.r u.1.w u.1.i) (lf:=λ _ _=>[(0,.ref M.m),(1,.int (a+1:Nat)),(2,.int (m:Nat)),(3,.ref aA.x)])
  (λ d _=>adN g G cD dj M m a S.aU es ⟨aA.x,it,aA.bS,c2,re⟩ hK d.length)
  (⟨_,D,aZ.set m ⟨aA.x,it,aA.bS,c2,re⟩,aj.set m _,dF,wl,bQ.set m false⟩,⟨S.num,S.aU,S.sym,es,S.moves,G.dv es,ea (ar (G.dv es))⟩) (rR (aL (ag.fL ..)) λ _ _ u i=>aL i.5) rfl (by dsimp only [l9];rw [O4 (σ:=⟨aA.x,it,aA.bS,c2,re⟩) b.1 rfl];rfl) rfl ⟨(y.more (Ext.new (o:= .list ((G.syms es).map λ (X:Nat)=> .tup [.int X,cS (G.goto es X)])) G3)),PS.1,PS.2,hP ((cF.mp b.1).1),ag.fL ..,adP,by rw [je];exact w⟩ (λ d X e u cV hd aK d0 _=>⟨_,rfl,?_⟩) λ u aK=>cK (b1 (1204000 - (a+1)) (u.1,a+1) (by dsimp only at*;exact eZ (.f .p .q<| .l (.a .r (.s .t)) (.k 1204000)<| .l (.k 1204000) (.a .q .t)<| .g (.s .r) .p) rfl yP (bE (ef (eZ (.l (.a (.a .p (.w 602 .q)) .r) (.k 1204000)<| .l (.s .t) .p<| .g (.s .t) (.k 1204000)) rfl p.6.6.3 bK))) (sb _ _)) ⟨rfl,aK.1,aK.2.finish cl aK.3 (dn _),aK.6.2⟩) rfl rfl
 have B4:(G.syms es)[d.length]? =some X:=by rw [hd];exact Pw rfl
 have B5:X∈G.syms es:=by rw [hd];simp
 have G4:=aK.1.1.2.2 m _ _ aK.4 aK.3.1;refine G4.1.elim λ is PT=> ?_;have cX:G.goto es X≠[]:=λ e=>by
  obtain ⟨z,b5⟩:=yy.mp B5;have:((z.1+1,z.2):Nat×Nat)∈G.goto es X:=mQ.mpr ⟨z.1,rfl,b5.1,b5.2⟩;rw [e] at this;cases this
 have FW:∀k∈ar (G.goto es X),∃j,k=j+1∧G.cC j=some X:=λ k ao=>by
  obtain ⟨z,hz,rfl⟩:=bH.mp ao;obtain ⟨j,bI⟩:=mQ.mp hz;exact ⟨j,bI.1,bI.2.2⟩
 have hold:∃J:Int,(cU (dJ u.2.moves) (.int (X:Nat))).getD (.int (-1))= .int J∧(J= -1∨dB λ (j:Nat) (T:SVal)=>J=(j:Nat)∧u.1.S[j]? =some T∧ar T.aU=ar (G.goto es X)):=by
  rw [h1];cases ql:br u.2.moves X with
  | none=>exact ⟨-1,rfl,.inl rfl⟩
  | some j=>
   obtain ⟨U,bf⟩:=aK.2.6.6.5 _ (cY aK.3.1) X j (g4 ql);have:=cl.go X;rw [aK.3.5.1] at this;exact ⟨j,rfl,.inr ⟨j,U,rfl,bf.1,bf.2.eq this⟩⟩
 obtain ⟨J,aQ⟩:=hold;refine p9 (aL (aK.1.1.1 _ _ F.1))<|bO (aL PT.1) rfl PT.2.2.2.2.2.2.1<|rP (aL G4.3) rfl<|tB (aL G4.3) ⟨_,rfl⟩ aQ.1<|mN rfl λ l H1 z t=>adH Z O v aK.1 (t.sel [10,11,12,13]) aK.2 (O.3 S.aU es c9 cl X B5) cX FW (λ e=>by exact iP _ (bx ((cF.mp aK.3.1).1) (bE e))) aQ.2 hm aK.6.2 fX λ j adQ adR ajN adS adT adU ajO B3 PU w6 adV adW cv C adX=>T.go ?_ z w6
 obtain ⟨U,aD⟩:=cv;obtain ⟨cc,K⟩:=aK.3.B9 adW;have G5:=C.2 m _ aK.4;have G6:=C.1 hK _ aK.5 aK.6.1;have L:=PU.1.2.2 m _ _ G5 K.1;refine L.1.elim λ jG PV=> ?_;have PW:=adV.move cl K B4 aD.1 aD.2;have adY:hK≠aA.bS:=λ e=>by
  have:=L.3;rw [show (⟨aA.x,it,aA.bS,c2,re⟩:ck).bS=hK from e.symm,G6.1] at this;cases this
 exact bO (aL PV.1) rfl PV.2.2.2.2.2.2.1<|BI L.3 ⟨_,rfl⟩ (by rw [j7];unfold lim;exact a9 (K.GD v cl) (by decide)) (qg ..)<|cK (d0 (⟨_,adQ,adR,_,adS,adT,adU⟩,_) ⟨PU.moves G5 K.1 L.3 _,PW.1,by rw [cI];exact PW.2,G5,(ag.er _ _ adY).trans G6.1,G6.2,by rw [je];exact adX⟩) rfl rfl
end
section
variable {W:a0} {P:eg} {r:Nat} {E:ag->Prop} {H:ag} {Q:KE} {g:ak} {G:au} {cD:aS->Prop}
noncomputable def G7 (G:au):SVal:=⟨0,G.dY,-1,[],[],[],[]⟩
theorem adZ (O:l6 G cD):eY G cD (λ _=>False) [G7 G] [G.dY] [0] [true] 0:=by
 have one:∀{α:Type} {a b:α} {i:Nat},[a][i]? =some b->i=0∧b=a:=λ {α a b i} h=>by
  cases i with
  | zero=>simp at h;exact ⟨rfl,h.symm⟩
  | succ i=>simp at h
 refine ⟨rfl,rfl,by simp,λ K h=> ?_,λ i S C J c=> ?_,λ S h=> ?_,λ i S h=> ?_,⟨_,rfl,Sub.refl _,rfl⟩,λ i S h h0=> ?_,λ i h=> ?_,λ i h=> ?_,by simp,?_,λ i j S T J c _ _=> ?_,λ S h X j d=> ?_,λ i S h _=> ?_,λ S h=> ?_,λ i S h _ hw=> ?_⟩
 ·rw [b3] at h;subst h;exact O.2
 ·obtain ⟨_,rfl⟩:=one J;obtain ⟨_,rfl⟩:=one c;exact Sub.refl _
 ·rw [b3] at h;subst h;exact O.2
 ·obtain ⟨rfl,rfl⟩:=one h;rfl
 ·obtain ⟨rfl,rfl⟩:=one h;exact (fR 0 (qO (.l (.s (.k 0)) (.k 0)<| .g .o (.k 0) (n:=0)) rfl h0)).elim
 ·rw [b3] at h;subst h;simp
 ·obtain ⟨rfl,_⟩:=one h;simp
 ·unfold room;simp;exact ct (.l .p (.k 600)<| .g (.a (.k 1203399) .p) (.k 1204000)) rfl (ur _ _)
 ·obtain ⟨rfl,_⟩:=one J;obtain ⟨rfl,_⟩:=one c;rfl
 ·rw [b3] at h;subst h;cases d
 ·obtain ⟨_,rfl⟩:=one h;exact .inl rfl
 ·rw [b3] at h;subst h;exact .nil
 ·obtain ⟨_,e⟩:=one hw;cases e
theorem ad0 {α:Type} {L:List (Nat×α)} {v:α}:lk n (Mine.sel ns L)=some v->n∈ns:=by
 induction ns with
 | nil=>exact λ e=>no e
 | cons m ns ih=>
  intro e;unfold sel at e;rw [aih] at e;cases h:lk m L with
  | none=>rw [h] at e;exact .tail _ (ih e)
  | some w=>
   rw [h] at e;rcases gZ e with ⟨q,e⟩ | ⟨_,e⟩
   ·rw [q];exact .head _
   ·exact .tail _ (ih e)
theorem Fr.bS {L:Cells} (f:Fr B L H) {n:Nat} {a:ak} {o:c5} (h:lk n L=some (a,o)) {ms:aw} (g:n∉ms):Fr (B.upd a o) (Mine.sel ms L) H:=by
 refine ⟨λ b bT e=> ?_,λ m x c e=>(ag.er _ _ ((λ m x bw e q=>g (f.4 m n a bw o (q▸oR e) h▸ad0 e):∀m x bw,lk m (Mine.sel ms L)=some (x,bw)->x≠a) _ _ _ e)).trans (f.2 m x c (oR e)),λ m x c e=>f.3 m x c (oR e),λ m i x c j e k=>f.4 m i x c j (oR e) (oR k)⟩
 by_cases d:b=a
 ·subst d;rw [ag.fL] at e;cases e;exact f.3 _ _ _ h
 ·rw [ag.er _ _ d] at e;exact f.1 _ _ e
theorem ad1 (Z:Base W P) (a:G.Ok) (x:dS H g G) {most:Nat} (f:most=2∨most=2000)
  (q:∀dj B M D aA aa,Ext H dj->dS dj g G->qh dj G M.eX M.eE G.bN G.bR->fI dj B g M D [aA] [G7 G]->Fr B (l9 M D [aA] [0] [true]) aa->M.most=most->Q (.ref M.m) aa):dw W (r+6) .jD [.ref g,.int (most:Nat)] H Q E:=by
 refine Z6 Z λ m p=>yo 3 p rfl<|fo 0 rfl rfl<|fo 0 rfl rfl<|O5 Z a x λ eX c=>fo 0 rfl rfl<|O6 Z a (x.ext (.new c)) λ eE i=> ?_;have j:=O8 a c i;have b:=(Ext.new c).trans (Ext.new (o:= .list (nats G.bR)) i);generalize (H.upd eX (.list (bools G.bN))).upd eE (.list (nats G.bR))=s at j b ⊢;refine fo 0 rfl rfl<|fw 10 rfl λ cZ=>fo 0 rfl rfl<|lh 11 GW λ hd=>fo 0 rfl rfl<|fw 12 rfl λ tO=>fo 0 rfl rfl<|fw 13 rfl λ q8=>fo 0 rfl rfl<|p9 (rc 0 rfl)<|O7 Z a (x.ext b)<|mN rfl λ l H1 z k=> ?_;have t:=k.bS (n:=0) (ms:=[10,11,12,13]) rfl (by decide)
 have d:=Ext.new (o:= .inst .jD (cy [(.D5,.ref q8),(.waiting,.ref tO),(.D4,.ref hd),(.sO,.ref cZ),(.D3,.ref eE),(.D2,.ref eX),(.most,.int (most:Nat)),(.D1,.ref g)])) (k.2 0 _ _ rfl:s m=none);refine PO (M:=⟨m,eX,eE,cZ,hd,tO,q8,most⟩) (D:=[]) (aZ:=[]) (aj:=[]) (wl:=[]) (bQ:=[]) Z ⟨⟨Ext.refl _,B2 _,λ _ h=>hQ h⟩,⟨_,ag.fL ..,rfl,rfl,rfl,rfl,rfl,rfl,rfl,rfl⟩,⟨λ _ h=>hQ h,.nil,.nil⟩,λ _ h=>hQ h,rfl,λ _ h=>hQ h⟩ t (K:=G.dY) (sym:= -1) (by simp [au.dY]) (by decide) (by decide) (by decide) f (λ h=> ?_) λ _ aA u e3 aa y _ v=>⟨rfl,q _ e3 ⟨m,eX,eE,cZ,hd,tO,q8,most⟩ u aA aa (b.trans d) ((x.ext b).ext d) (j.ext d) y v rfl⟩
 exact absurd (show most<=0 from h) (by rcases f with e | e<;>rw [e]<;>decide)
end
section
variable {G:au} {cD:aS->Prop}
noncomputable def gD (L:aw):aw:=L.foldl (λ o g=>if g∈o then o else o++[g]) [0]
theorem vX (L:aw) (x:Nat):gD (L++[x])=if x∈gD L then gD L else gD L++[x]:=by unfold gD;rw [ki];rfl
theorem yS:∀(L:aw),(gD L).Nodup∧∀x,x∈gD L↔x=0∨x∈L:=by
 refine lq ⟨by simp [gD],λ x=>by simp [gD]⟩ λ L y ih=> ?_
 rw [vX]
 by_cases h:y∈gD L
 ·rw [if_pos h];refine ⟨ih.1,λ x=> ?_⟩;rw [ih.2,c6,b3];refine ⟨λ h=>h.imp id .inl,λ h'=>h'.elim .inl λ h'=>h'.elim .inr λ e=> ?_⟩;rw [e];exact (ih.2 y).mp h
 ·rw [if_neg h];refine ⟨?_,λ x=> ?_⟩
  ·rw [gx];exact ⟨ih.1,by simp,λ a d b c=>by simp at c;subst c;rintro rfl;exact h d⟩
  ·rw [c6,ih.2,c6,b3,or_assoc]
theorem G8 (L M:aw):∃t,gD (L++M)=gD L++t:=by
 revert M;refine lq ⟨[],by simp⟩ λ M y ⟨t,ih⟩=> ?_
 rw [<- jy,vX,ih]
 split
 ·exact ⟨t,rfl⟩
 ·exact ⟨t++[y],by simp⟩
theorem yT (o:aw):ar o.zipIdx=o:=by
 unfold ar;refine uv (by simp) λ i J a=>by simp
theorem PX {o:aw} (a:o.Nodup) {x:Nat} (h:o[i]? =some x):br o.zipIdx x=some i:=ew (by rw [yT];exact a) (List.mk_mem_zipIdx_iff_getElem?.mpr h)
noncomputable def hN (o:aw) (x:Nat):Nat:=(br o.zipIdx x).getD 0
theorem G9 {o:aw} (a:o.Nodup) {i x:Nat} (h:o[i]? =some x):hN o x=i:=by unfold hN;rw [PX a h];rfl
theorem PY {o:aw} (b:o.Nodup) {x:Nat} (h:x∈o):hN o x<o.length∧o[hN o x]? =some x:=by
 obtain ⟨i,a⟩:=oh h;rw [G9 b a];exact ⟨(cF.mp a).1,a⟩
theorem ad2 {o:aw} {x:Nat} (h:x∉o):d5 o.zipIdx x o.length=(o++[x]).zipIdx:=by
 unfold d5;rw [nW.mpr (by rw [yT];exact h)]
 simp [Tw]
noncomputable def pd (L:aw):Nat:=L.foldl (λ c g=>max c (g+1)) 1
theorem PZ (L:aw) (x:Nat):pd (L++[x])=max (pd L) (x+1):=by unfold pd;rw [ki];rfl
theorem ad3 (c:O.Nodup):∀(L:aw),(∃t,O=gD L++t)->pd (L.map (hN O))=(gD L).length∧∀l x m,L=l++x::m->hN O x<=pd (l.map (hN O)):=by
 refine lq (λ _=>⟨rfl,λ l x m h=>by simp at h⟩) λ L y ih=>λ z=>z.elim λ t b8=> ?_
 have d:∃t,O=gD L++t:=by
  obtain ⟨u,b⟩:=G8 L [y];exact ⟨u++t,by rw [b8,b,jy]⟩
 have aD:=ih d;obtain ⟨u,b⟩:=d;have a:(y∈gD L->hN O y<(gD L).length)∧(y∉gD L->hN O y=(gD L).length):=by
  refine ⟨λ h=> ?_,λ h=> ?_⟩
  ·obtain ⟨i,f⟩:=oh h;have g:=(cF.mp f).1;rw [G9 c (i:=i) (by rw [b,jY g];exact f)];exact g
  ·refine G9 c ?_;rw [b8,vX,if_neg h];simp
 rw [eR,fe,kU,PZ,aD.1,vX];refine ⟨?_,λ l x m e=> ?_⟩
 ·by_cases h:y∈gD L
  ·rw [if_pos h];exact Sy (a.1 h)
  ·rw [if_neg h,cI,nd];rw [a.2 h];exact aiu (sF _)
 ·rcases aik m with rfl | ⟨j,z,rfl⟩
  ·obtain ⟨k,n⟩:=aiv e rfl;cases n;subst k;rw [aD.1]
   by_cases h:y∈gD L
   ·exact bF (a.1 h)
   ·exact bE (a.2 h)
  ·refine aD.2 l x j ?_;rw [ail,<- zW,<- jy] at e;exact (aiv e rfl).1
noncomputable def goals (S:SVal):aw:=S.moves.map (·.2)
noncomputable def sd (G:au) (aj:b9) (x:Nat):SVal:=aj.getD x (G7 G)
theorem qt {x:Nat} (h:aj[x]? =some S):sd G aj x=S:=by unfold sd;rw [eS,h];rfl
noncomputable def mW (G:au) (aj:b9) (x:Nat):aw:=goals (sd G aj x)
noncomputable def se (G:au) (O:aw) (i:Nat) (S:SVal):SVal:=⟨i,S.aU,S.sym,S.items,S.moves.map λ p=>(p.1,hN O p.2),G.dv S.items,ea (ar (G.dv S.items))⟩
noncomputable def kK (G:au) (O:aw) (aj:b9):b9:=O.zipIdx.map λ p=>se G O p.2 (sd G aj p.1)
theorem Cj {x:Nat} (h:O[i]? =some x):(kK G O aj)[i]? =some (se G O i (sd G aj x)):=by
 unfold kK;rw [ff,List.getElem?_zipIdx,h];simp
theorem vY (O:aw) (aj:b9):(kK G O aj).length=O.length:=by simp [kK]
theorem ad4 {T:SVal} (h:(kK G O aj)[i]? =some T):∃x,O[i]? =some x∧T=se G O i (sd G aj x):=by
 have a:=(cF.mp h).1;rw [vY] at a;have e:=c4 a;rw [Cj e] at h;cases h;exact ⟨_,e,rfl⟩
noncomputable abbrev P0 (G:au) (aj:b9):Prop:=eT (0<aj.length) (aj.length<=2000) (∀S∈aj,(ar S.moves).Pairwise (·< ·)) (∀S∈aj,S.moves.length<=12) (∀S∈aj,∀p∈S.moves,p.2<aj.length) (A2 (∀S∈aj,(ar S.items).Nodup∧∀i m,br S.items i=some m->i<G.N∧m<2^12) (∀S∈aj,S.aU.length<=100))
theorem Ck (h:l.Pairwise (·< ·)):ea l=l:=by
 unfold ea;exact List.mergeSort_of_pairwise (h.imp λ h=>by simp;exact bF h)
theorem eM.P1 {aZ:List ck} {aj:b9} (x:eM H aZ aj) (k:Ext H aa) (o:H aA.x=none) (d:H aA.bS=none) (p:H aA.c2=none) (q:∀σ∈aZ,σ.bS≠aA.it) (r:aA.bS≠aA.it) (s:aA.bS≠aA.c2) (y:ez aa aA S):eM aa (aZ++[aA]) (aj++[S]):=by
 have mq:∀σ∈aZ,H σ.x≠none∧H σ.it≠none∧H σ.bS≠none∧H σ.c2≠none:=λ σ h=>by
  obtain ⟨T,z⟩:=x.tI h;obtain ⟨⟨fs,J,_⟩,t,u,v,_⟩:=z;exact ⟨by rw [J];simp,by rw [t];simp,by rw [u];simp,by rw [v];simp⟩
 refine ⟨by simp [x.1],λ i σ T a b=> ?_,?_,?_,λ σ h0 τ j=> ?_⟩
 ·rcases kI a with l | ⟨w,rfl⟩<;>rcases kI b with m | ⟨A,rfl⟩
  ·exact (x.2 i σ T l m).ext k
  ·exact (fR 0 (ci (.f .p .q<| .l (.s .p) .r<| .e .r .q<| .g .o (.k 0) (n:=0)) rfl A ((cF.mp l).1) x.1)).elim
  ·exact (fR 0 (ci (.f .p .q<| .l (.s .p) .r<| .f .q .r<| .g .o (.k 0) (n:=0)) rfl w ((cF.mp m).1) x.1)).elim
  ·exact y
 ·rw [eR,gx];refine ⟨x.3,by simp,λ a f b c=> ?_⟩
  simp only [fe,kU,b3] at c;subst c;rintro rfl;obtain ⟨σ,g,e⟩:=bH.mp f;exact (mq σ g).1 (by rw [show σ.x=aA.x from e];exact o)
 ·rw [eR,gx];refine ⟨x.4,by simp,λ a f b c=> ?_⟩
  simp only [fe,kU,b3] at c;subst c;rintro rfl;obtain ⟨σ,g,e⟩:=bH.mp f;exact (mq σ g).2.2.1 (by rw [show σ.bS=aA.bS from e];exact d)
 ·rcases c6.mp h0 with h | h<;>rcases c6.mp j with h' | h'<;>clear h0 j
  ·exact x.5 σ h τ h'
  ·rw [b3] at h';subst h';exact ⟨q σ h,λ e=>(mq σ h).2.2.1 (by rw [e];exact p)⟩
  ·rw [b3] at h;subst h;exact ⟨λ e=>(mq τ h').2.1 (by rw [<- e];exact d),λ e=>(mq τ h').2.2.2 (by rw [<- e];exact d)⟩
  ·rw [b3] at h h';subst h h';exact ⟨r,s⟩
end
section
variable {W:a0} {P:eg} {r:Nat} {E:ag->Prop} {H:ag} {Q:KE} {g:ak} {G:au} {cD:aS->Prop}
theorem P2 (h:(ar es).Pairwise (·< ·)):((dJ es).map (·.1)).mergeSort gB=es.map λ p=> .int (p.1:Nat):=by
 rw [oZ,qm,show (ar es).mergeSort (λ a b=>decide (a<=b))=ar es from Ck h];simp [nats,ar]
theorem ad5 (o:aw):(dJ o.zipIdx).length=o.length:=by simp [dJ]
theorem ad6 {d e:a8} {p:Nat×Nat} (a:(ar es).Nodup) (h:es=d++p::e):p.1∉ar d:=λ b=>by
 rw [h] at a;unfold ar at a b;rw [eR,gx] at a;exact a.2.2 p.1 b p.1 (.head _) rfl
theorem ad7 (Z:Base W P) (ec:G.Ok) (x:dS H g G) {cZ:ak} (r7:H cZ=some (.list (refs aZ))) (st:eM H aZ aj) (N:P0 G aj)
  (q:∀a σs aa O L,Ext H aa->o5 aa a σs->eM aa σs (kK G O aj)->O=gD L->L=O.flatMap (mW G aj)->(∀x∈O,x<aj.length)->Q (.ref a) aa):dw W (r+3) .numbered [.ref g,.ref cZ] H Q E:=by
 have bK:=N.2;have ka:∀{o L:aw},o=gD L->(∀x∈o,x<aj.length)->o.Nodup∧o.length<=aj.length:=λ J af=>⟨J▸(yS _).1,jM _ _ (J▸(yS _).1) af⟩;refine Zz Z (fN 11 rfl<|fw 2 rfl λ k=>lh 3 .int λ m=>F1 3 rfl ⟨_,rfl⟩<|rS [2,3] [0,1,2,3,4] (cQ:=λ _=>H) (cR:=λ s:aw×aw×Nat=>[(2,k,.list (nats s.1)),(3,m,.dict .int (dJ s.1.zipIdx))]) (lf:=λ s=>[(0,.ref g),(1,.ref cZ),(2,.ref k),(3,.ref m),(4,.int (s.2.2:Nat))])
  (λ n s=>n=aj.length - s.2.2∧s.2.2<=s.1.length∧s.1=gD s.2.1∧s.2.1=(s.1.take s.2.2).flatMap (mW G aj)∧∀x∈s.1,x<aj.length) aj.length ([0],[],0) rfl rfl rfl ⟨rfl,dz _,rfl,rfl,λ x h=>b3.mp h▸N.1⟩ λ n s K' I b1 j8 _=> ?_)
 have cM:=ka I.2.2.1 I.2.2.2.2;refine iN (rc 2 rfl) (eu _) (by unfold lim;exact bF (a9 (bB cM.2 bK) (by decide)))<|fv (λ h=> ?_) λ h=>j8 ?_
 ·have w:s.2.2<s.1.length:=by exact hx.mp h
  have xl:=c4 w;have Ha:=jd w;generalize s.1[s.2.2]=y at xl Ha;obtain ⟨aA,S,X⟩:=st.get (I.2.2.2.2 y Ha);have A:=X.2.2.1;have j:=cY X.2.1;have K:=N.3 S j;have xY:mW G aj y=S.moves.map (·.2):=by unfold mW goals;rw [qt X.2.1]
  refine A.1.elim λ fs f=> ?_;refine d4 (rc 2 rfl) (by exact bX (bx (bx w cM.2) bK) (by decide)) (show _=some (.int (y:Nat)) by simp [nats,xl])<|d4 (aL r7) (by exact bX (bx (I.2.2.2.2 y Ha) bK) (by decide)) (o8 X.1)<|bO (aL f.1) rfl f.2.2.2.2.2.2.1<|qb 9 (aL A.3) (by rw [j7];exact bF (a9 (N.4 S j) (by decide))) (P2 K) λ tv=>eL (c0:=λ p:Nat×Nat=>ai.int (p.1:Nat)) [2,3,9] [0,1,2,3,4,5] (cQ:=λ _ _=>H) (cR:=λ _ o=>[(2,k,.list (nats o)),(3,m,.dict .int (dJ o.zipIdx)),(9,tv,.list (S.moves.map λ p=>ai.int (p.1:Nat)))]) (lf:=λ _ _=>[(0,.ref g),(1,.ref cZ),(2,.ref k),(3,.ref m),(4,.int (s.2.2:Nat)),(5,.ref aA.bS)])
   (λ d _ o=>o=gD (s.2.1++d.map (·.2))∧∀x∈o,x<aj.length) s.1 (li (rc 9 rfl) λ _ _=>rc 9 rfl) rfl rfl rfl ⟨by rw [kU,h9];exact I.2.2.1,I.2.2.2.2⟩ (λ d p e o cV hd aK Y _=>⟨_,rfl,?_⟩) λ o aK=> ?_
  ·have da:=ka aK.1 aK.2;have M:p∈S.moves:=by rw [hd];simp
   have c9:cU (dJ S.moves) (.int (p.1:Nat))=some (.int (p.2:Nat)):=by rw [h1,(ew (K.imp λ h=>e6 h) (i:=p.1) (v:=p.2) M)];rfl
   have oP:s.2.1++(d++[p]).map (·.2)=(s.2.1++d.map (·.2))++[p.2]:=by simp
   refine hZ (aL A.3) ⟨_,rfl⟩ c9<|NT (rc 3 rfl) ⟨_,rfl⟩ (by rw [h1]) ?_
   by_cases R:p.2∈o
   ·exact nQ (by rw [Tx,ey.mpr (by rw [yT];exact R)];rfl)<|cK (Y o ⟨by rw [oP,vX,<- aK.1,if_pos R],aK.2⟩) rfl rfl
   ·refine tA (by rw [nW.mpr (by rw [yT];exact R)];rfl)<|iN (rc 2 rfl) (eu _) (by unfold lim;exact bF (a9 (bB da.2 bK) (by decide)))<|hZ (aL A.3) ⟨_,rfl⟩ c9<|oU 3 rfl ⟨_,rfl⟩ (by rw [ad5];unfold lim;exact a9 (bB da.2 bK) (by decide)) (by rw [qg,ad2 R])<|fl (rc 2 rfl) rfl<|hZ (aL A.3) ⟨_,rfl⟩ c9<|g0 2 rfl (by rw [eu];unfold lim;exact a9 (bB da.2 bK) (by decide)) (lg _ [_]).symm<|cK (Y (o++[p.2]) ⟨by rw [oP,vX,<- aK.1,if_neg R],λ x ay=> ?_⟩) rfl rfl
    exact (c6.mp ay).elim (aK.2 x) λ h=>b3.mp h▸N.5 S j p M
  ·obtain ⟨t,b8⟩:=G8 s.2.1 (S.moves.map (·.2));rw [<- aK.1,<- I.2.2.1] at b8;refine cK (b1 (aj.length - (s.2.2+1)) (o,s.2.1++S.moves.map (·.2),s.2.2+1) (by have:=I.1;have:=cM.2;exact hC (.f .p .q<| .l (.a .r (.s .t)) .u<| .l .u (.a .q .t)<| .g (.s .r) .p) rfl I.1 (bE (ef (ci (.l .p .q<| .l (.s .r) .p<| .g (.s .r) .q) rfl cM.2 w))) (sb _ _)) ⟨rfl,by dsimp only;rw [b8,cI];exact su (bx w (fJ _ _)),aK.1,?_,aK.2⟩) rfl rfl
   show _=(o.take (s.2.2+1)).flatMap _;rw [b8,List.take_append_of_le_length w,take_succ_get xl,w1,<- I.2.2.2.1];simp [xY]
 ·have w:s.2.2=s.1.length:=dg I.2.1 (fD λ q=>h (hx.mpr q));have bL:s.2.1=s.1.flatMap (mW G aj):=by have:=I.2.2.2.1;rwa [w,zD] at this
  refine fw 7 rfl λ rr=>eL (c0:=λ i:Nat=>ai.int (i:Nat)) [2,3,7] [0,1,2,3,7] (cQ:=λ _ (u:ag×List ck)=>u.1) (cR:=λ _ u=>[(2,k,.list (nats s.1)),(3,m,.dict .int (dJ s.1.zipIdx)),(7,rr,.list (refs u.2))]) (lf:=λ _ _=>[(0,.ref g),(1,.ref cZ),(2,.ref k),(3,.ref m),(7,.ref rr)])
   (λ d _ u=>jP H u.1 u.2 ((kK G s.1 aj).take d.length)) (H,[]) (li (rc 2 rfl) λ _ _=>rc 2 rfl) rfl rfl rfl ⟨Ext.refl H,B2 H,λ _ h=>hQ h⟩ (λ d y e u cV hd aK Y _=>⟨_,rfl,?_⟩) λ u aK=>fm rfl rfl λ l ac0 z f=>O0 Z (f.get 7 rfl) λ GG B3 qn _ A=> ?_
  ·have T:s.1[d.length]? =some y:=by rw [hd,jA (dn _),qM];rfl
   have Hb:=(cF.mp T).1;obtain ⟨aA,S,C⟩:=st.get (I.2.2.2.2 y (cY T));have A:=C.2.2.1.ext aK.1;have j:=cY C.2.1;have K:=N.3 S j;have P3:=N.4 S j;have B7:(ar S.moves).Nodup:=K.imp λ h=>e6 h;have P4:u.2.length=d.length:=by rw [aK.2.1,mj,vY];exact dg (bD (.l .p .q<| .g .p .q) rfl (oa _ _)) (Nat.le_min.mpr ⟨ct (.g .p .p) rfl,bD (.l (.s .p) .q<| .g .p .q) rfl Hb⟩)
   refine A.1.elim λ fs f=> ?_;refine d4 (aL (aK.1 _ _ r7)) (by have:=I.2.2.2.2 y (cY T);exact bX (bx this bK) (by decide)) (o8 C.1)<|iN (rc 7 rfl) ((qo _).trans P4) (by unfold lim;exact bF (bX (bx (bx Hb cM.2) bK) (by decide)))<|bO (aL f.1) rfl f.2.2.1<|bO (aL f.1) rfl f.2.2.2.2.1<|B1 Z (N.6.2 S j) λ σ en D c qs=> ?_
   refine qs.1.elim λ fj F=> ?_;refine p9 (aL F.1)<|bO (aL (D _ _ f.1)) rfl f.2.2.2.2.2.1<|Gz Z ec x (aK.1.trans D) (aK.1.none c.1) qs (D _ _ A.2) (N.6.1 S j).1 (N.6.1 S j).2 λ c2 re ik k2 h7 o6 vZ=> ?_;have a5:Ext u.1 ik:=(D.but.trans k2).toExt λ a h=>h▸c.1;have A2:=A.ext a5;have ky:σ.bS≠aA.it:=λ e=>by have:=A.2;rw [<- e,c.3] at this;cases this
   have dN:σ.bS≠c2:=λ e=>by have:=qs.3;rw [e,h7] at this;cases this
   refine bO (aL (a5 _ _ f.1)) rfl f.2.2.2.2.2.2.1<|qb 9 (aL A2.3) (by rw [j7];exact bF (a9 P3 (by decide))) (P2 K) λ tv=>eL (c0:=λ p:Nat×Nat=>ai.int (p.1:Nat)) [2,3,7,9] [0,1,2,3,7,9,10] (cQ:=λ _ b=>b) (cR:=λ _ _=>[(2,k,.list (nats s.1)),(3,m,.dict .int (dJ s.1.zipIdx)),(7,rr,.list (refs u.2)),(9,tv,.list (S.moves.map λ p=>ai.int (p.1:Nat)))]) (lf:=λ _ _=>[(0,.ref g),(1,.ref cZ),(2,.ref k),(3,.ref m),(7,.ref rr),(9,.ref aA.x),(10,.ref σ.x)])
    (λ U _ b=>Ext u.1 b∧eM b [⟨σ.x,aA.it,σ.bS,c2,re⟩] [⟨d.length,S.aU,S.sym,S.items,U.map λ p=>(p.1,hN s.1 p.2),G.dv S.items,ea (ar (G.dv S.items))⟩]) ik (li (rc 9 rfl) λ _ _=>rc 9 rfl) rfl rfl rfl
    ⟨a5,eM.P1 (aZ:=[]) (aj:=[]) (B2 u.1) a5 c.1 c.3 (D.none h7) (λ _ h=>hQ h) ky dN vZ⟩ (λ U p a6 b iJ i0 B ad8 _=>⟨_,rfl,?_⟩) λ b B=> ?_
   ·have M:p∈S.moves:=by rw [i0];simp
    have ql:=ew B7 (i:=p.1) (v:=p.2) M;have Cm:p.2∈s.1:=by
     rw [I.2.2.1,(yS _).2,bL,nf];refine .inr ⟨y,cY T,?_⟩;unfold mW goals;rw [qt C.2.1];exact bH.mpr ⟨p,M,rfl⟩
    have gR:=A.ext B.1;have V:=B.2.2 0 _ _ rfl rfl;have nv:=congrArg gz i0;rw [cI,f7] at nv;refine gR.1.elim λ fs f=>V.1.elim λ fj F=> ?_;refine bO (aL f.1) rfl f.2.2.2.2.2.2.1<|hZ (v:= .int (p.2:Nat)) (aL gR.3) ⟨_,rfl⟩ (by rw [h1,ql];rfl)<|hZ (v:= .int (hN s.1 p.2:Nat)) (rc 3 rfl) ⟨_,rfl⟩ (by rw [h1,PX cM.1 (PY cM.1 Cm).2];rfl)<|bO (aL F.1) rfl F.2.2.2.2.2.2.1<|BI V.3 ⟨_,rfl⟩ (by rw [j7,cz];unfold lim;exact ci (.l .p (.k 12)<| .f .p (.a .q (.s .r))<| .g (.s .q) (.k 16000000)) rfl P3 nv) (qg ..)<|cK (ad8 _ ⟨B.1.upd c.3,?_⟩) rfl rfl
    have:=B.2.OX (i:=0) rfl rfl (d5 (U.map λ p=>(p.1,hN s.1 p.2)) p.1 (hN s.1 p.2));have e:d5 (U.map λ p=>(p.1,hN s.1 p.2)) p.1 (hN s.1 p.2)=(U++[p]).map λ p=>(p.1,hN s.1 p.2):=by
     unfold d5;rw [nW.mpr,eR]
     ·rfl
     ·have h:=ad6 B7 i0;unfold ar at h ⊢;rw [e5];exact h
    rw [e] at this ⊢;exact this
   ·have V:=B.2.2 0 _ _ rfl rfl;have ad9:se G s.1 d.length (sd G aj y)=⟨d.length,S.aU,S.sym,S.items,S.moves.map λ p=>(p.1,hN s.1 p.2),G.dv S.items,ea (ar (G.dv S.items))⟩:=by rw [qt C.2.1];rfl
    rw [<- ad9] at V;have tk:(kK G s.1 aj).take (d++[y]).length=(kK G s.1 aj).take d.length++[se G s.1 d.length (sd G aj y)]:=by rw [cI];show List.take (d.length+1) _=_;rw [og,Cj T];rfl
    refine fl (rc 7 rfl) rfl<|g0 7 rfl (by rw [qo];unfold lim;exact bX (bx (bx (a9 (bE P4) Hb) cM.2) bK) (by decide)) (GC _ ⟨σ.x,aA.it,σ.bS,c2,re⟩).symm<|cK (Y (b,u.2++[⟨σ.x,aA.it,σ.bS,c2,re⟩]) ?_) rfl rfl
    refine ⟨aK.1.trans B.1,?_,λ τ fH=>(c6.mp fH).elim (aK.3 τ) λ h=>b3.mp h▸⟨aK.1.none c.1,aK.1.none c.3⟩⟩;rw [tk];exact aK.2.P1 B.1 c.1 c.3 (D.none h7) (λ τ fH e=>by
     have J:=(aK.3 τ fH).2;rw [show τ.bS=aA.it from e,C.2.2.1.2] at J;cases J) ky dN V
  ·have P5:=aK.2;rw [wY (by rw [vY];exact dn _)] at P5
   exact q GG u.2 B3 s.1 s.2.1 (λ a o h=>qn _ _ (f.1 _ _ (aK.1 _ _ h))) A ((P5.ext f.1).ext qn) I.2.2.1 bL I.2.2.2.2
end
section
variable {W:a0} {P:eg} {r:Nat} {E:ag->Prop} {H:ag} {Q:KE} {g:ak} {G:au} {cD:aS->Prop}
noncomputable abbrev tR (G:au) (cD:aS->Prop) (co:b9):Prop:=eT (0<co.length) (co.length<=2000) (∀(i:Nat) (T:SVal),co[i]? =some T->T.num=i) (∀T∈co,c1 G G.bN G.bR T.aU T.items∧T.bP=G.dv T.items∧T.r2=ea (ar T.bP)∧ar T.moves=G.syms T.items) (∀T∈co,∀X j,(X,j)∈T.moves->∃U:SVal,co[j]? =some U∧U.sym=(X:Nat)∧Sub (G.goto T.items X) U.aU) (jC (∀T∈co,cD T.aU) (∃T:SVal,co[0]? =some T∧Sub G.dY T.aU∧T.sym= -1) (∀(i j:Nat) (S T:SVal),co[i]? =some S->co[j]? =some T->S.aU.length=1->ar S.aU=ar T.aU->i=j) (∀l x m,co.flatMap goals=l++x::m->x<=pd l) (pd (co.flatMap goals)=co.length))
theorem eY.all (p:eY G cD (λ _=>False) aj dF wl bQ wl.length) (h:aj[i]? =some S):tN G aj S:=by
 refine p.6.6.6.3 i S h id ?_;have a:i<bQ.length:=by rw [p.2];exact (cF.mp h).1
 cases b:bQ[i] with
 | false=>rw [c4 a,b]
 | true=>
  have:=p.6.6.1 i (by rw [c4 a,b])
  simp at this
theorem eY.P6 (O:l6 G cD) (a:G.Ok) (p:eY G cD (λ _=>False) aj dF wl bQ wl.length):P0 G aj:=by
 have all:∀S∈aj,tN G aj S:=λ S h=>by
  obtain ⟨i,b⟩:=oh h;exact p.all b
 refine ⟨?_,bF (p.cnt O),λ S h=> ?_,λ S h=> ?_,λ S h z hz=> ?_,λ S h=>⟨(all S h).1.1,(all S h).1.4⟩,λ S h=> ?_⟩
 ·obtain ⟨S,h,_⟩:=p.6.3;exact (cF.mp h).1
 ·rw [(all S h).4];exact vS _
 ·have d:=all S h;have w:=congrArg gz d.4;rw [f3] at w;exact w▸yI a λ z hz=>(d.1.4 z.1 z.2 (ew d.1.1 hz)).1
 ·obtain ⟨T,c⟩:=(all S h).5 z.1 z.2 hz;exact (cF.mp c.1).1
 ·exact bF (a9 ((O.1 _ (p.6.1 S h)).len a) (by decide))
theorem mX:G.off 0=0:=by
 unfold au.off au.yp;cases G.rules<;>rfl
theorem eY.P7 (O:l6 G cD) (p:eY G cD ex aj dF wl bQ a) {U:SVal} (c:aj[j]? =some U) {es:a8} {X:Nat} (l:X∈G.syms es) (m:Sub (G.goto es X) U.aU):0<j∧U.sym=(X:Nat):=by
 obtain ⟨z,d⟩:=yy.mp l;have b:=d.2;have ao:z.1+1∈ar U.aU:=by
  rw [<- m.1];exact bH.mpr ⟨(z.1+1,z.2),mQ.mpr ⟨z.1,rfl,d.1,b⟩,rfl⟩
 have e:0<j:=by
  rcases z1 j with rfl | h
  ·obtain ⟨T,f⟩:=p.6.3;have g:=f.1;rw [c] at g;cases g;rw [<- f.2.1.1] at ao;simp [au.dY,ar,mX] at ao
  ·exact h
 obtain ⟨Y,k⟩:=p.6.4 j U c e;obtain ⟨i,aD⟩:=k.2.2 _ ao;have:i=z.1:=dg (bD (.f (.s .p) (.s .q)<| .g .q .p) rfl aD.1) (bD (.e (.s .p) (.s .q)<| .g .p .q) rfl aD.1);subst this;rw [aD.2] at b;cases b;exact ⟨e,k.1⟩
theorem eY.fin (O:l6 G cD) (B:G.Ok) (p:eY G cD (λ _=>False) aj dF wl bQ wl.length) {Or L:aw} (J:Or=gD L) (s:L=Or.flatMap (mW G aj)) (u:∀x∈Or,x<aj.length):tR G cD (kK G Or aj):=by
 have k:Or.Nodup:=by rw [J];exact (yS L).1
 have C:∀x,x∈Or↔x=0∨x∈L:=λ x=>by rw [J];exact (yS L).2 x
 have inv:∀{i:Nat} {T:SVal},(kK G Or aj)[i]? =some T->dB λ (x:Nat) (S:SVal)=>Or[i]? =some x∧aj[x]? =some S∧T=se G Or i S:=λ {i T} h=>by
  obtain ⟨x,o⟩:=ad4 h;have v:=u x (cY o.1);refine ⟨x,aj[x],o.1,c4 v,?_⟩;rw [o.2,qt (c4 v)]
 have q:∀{T:SVal},T∈kK G Or aj->hi λ (i:Nat) (x:Nat) (S:SVal)=>Or[i]? =some x∧aj[x]? =some S∧T=se G Or i S:=λ {T} h=>by
  obtain ⟨i,D⟩:=oh h;obtain ⟨x,S,r⟩:=inv D;exact ⟨i,x,S,r.1,r.2.1,r.2.2⟩
 have h0:Or[0]? =some 0:=by
  obtain ⟨t,b8⟩:=G8 [] L;rw [J,agO] at*;rw [b8];rfl
 have w:(kK G Or aj).flatMap goals=L.map (hN Or):=by
  conv=>rhs;rw [s]
  unfold kK;rw [List.map_flatMap,aiw];rw [show Or.flatMap (λ a=>(mW G aj a).map (hN Or))=(Or.zipIdx.map (·.1)).flatMap (λ a=>(mW G aj a).map (hN Or)) by rw [show Or.zipIdx.map (·.1)=Or from yT Or],aiw]
  refine congrArg (λ f=>Or.zipIdx.flatMap f) (funext λ z=> ?_);simp [goals,se,mW]
 have A:=ad3 k L ⟨[],by rw [h9];exact J⟩
 refine ⟨by rw [vY];exact (cF.mp h0).1,by rw [vY];exact bB (jM _ _ k u:Or.length<=aj.length) ((p.P6 O B).2),λ i T h=> ?_,λ T h=> ?_,λ T h X j E=> ?_,λ T h=> ?_,?_,λ i j S T a b c d=> ?_,λ l x m e=> ?_,by rw [w,A.1,vY,<- J]⟩
 ·obtain ⟨x,S,_,_,rfl⟩:=inv h;rfl
 ·obtain ⟨i,x,S,a,b,rfl⟩:=q h;have d:=p.all b;refine ⟨d.1,rfl,rfl,?_⟩;show ar (S.moves.map λ p=>(p.1,hN Or p.2))=_;rw [show ar (S.moves.map λ p=>(p.1,hN Or p.2))=ar S.moves by simp [ar],d.4];rfl
 ·obtain ⟨i,x,S,a,b,rfl⟩:=q h;have d:=p.all b;obtain ⟨z,hz,e⟩:=bH.mp E;cases e;obtain ⟨U,g⟩:=d.5 z.1 z.2 hz;have F:z.2∈Or:=by
   rw [C,s];right;rw [nf];refine ⟨x,cY a,?_⟩;unfold mW goals;rw [qt b];exact bH.mpr ⟨z,hz,rfl⟩
  refine ⟨_,Cj (PY k F).2,?_,?_⟩
  ·rw [qt g.1];refine (p.P7 O g.1 (X:=z.1) (es:=S.items) ?_ g.2).2;rw [<- d.4];exact bH.mpr ⟨z,hz,rfl⟩
  ·rw [qt g.1];exact g.2
 ·obtain ⟨i,x,S,a,b,rfl⟩:=q h;exact p.6.1 S (cY b)
 ·obtain ⟨S,n⟩:=p.6.3;exact ⟨_,Cj h0,by rw [qt n.1];exact n.2.1,by rw [qt n.1];exact n.2.2⟩
 ·obtain ⟨x,S',a1,a2,rfl⟩:=inv a;obtain ⟨y,H,cM,I,rfl⟩:=inv b;have:=p.6.6.4 x y S' H a2 I c d;subst this;exact yF (f:=id) (by rw [Tz];exact k) a1 cM rfl
 ·rw [w] at e;obtain ⟨K,W,M,N,P⟩:=List.map_eq_append_iff.mp e;obtain ⟨y,Q,R,V,Y⟩:=List.map_eq_cons_iff.mp P;subst N;subst V;exact A.2 K y Q (by rw [M,R])
theorem P9 (Z:Base W P) (O:l6 G cD) (b:G.Ok) (x:dS H g G) {most:Nat} (i:most=2∨most=2000) (m:most=2->∀aa,Ext H aa->E aa)
  (q:∀a c aj dF wl bQ aa Or L,Ext H aa->eY G cD (λ _=>False) aj dF wl bQ wl.length->aj.length<=most->o5 aa a c->eM aa c (kK G Or aj)->Or=gD L->L=Or.flatMap (mW G aj)->(∀x∈Or,x<aj.length)->Q (.ref a) aa):runs W (r+6) E xU [] [some (.ref g),some (.int (most:Nat)),none] H (jH Q):=by
 refine fN 3 rfl<|fm rfl rfl λ l H1 z f=>ad1 Z b (x.ext f.1) i λ dj B M D aA n p k s y j t=>T.go ?_ z j;subst t;have et:Ext H dj:=λ a o h=>p _ _ (f.1 _ _ h);refine y.2.elim λ fs F=> ?_;refine p9 (aL (y.1.1 _ _ F.1))<|mN rfl λ l H1 z f=>adO Z O b k s y f (adZ O) i (i.elim (λ e=>e▸(by decide:1<=2)) λ e=>e▸(by decide:1<=2000)) (λ h aa e=>m h aa (et.trans e)) λ K N aj dF wl bQ e3 n d j eU u=>T.go ?_ z j
 exact GZ d<|fm rfl rfl λ l H1 z f=>ad7 Z b ((k.ext d.1.1).ext f.1) (f.get 10 rfl) (d.1.2.ext f.1) (eU.P6 O b) λ a c v Or L w A st J C I=>q a c aj dF wl bQ v Or L (λ a o h=>w _ _ (f.1 _ _ (d.1.1 _ _ (et _ _ h)))) eU u A st J C I
theorem aeb (B:Base W P) (O:l6 G cD) (c:G.Ok) (x:dS H g G) (q:∀a b co aa,Ext H aa->o5 aa a b->eM aa b co->tR G cD co->Q (.ref a) aa):dw W (r+7) .om [.ref g] H Q E:=
 ZA B (P9 B O c x (most:=2000) (.inr rfl) (λ h=>by cases h) λ a b aj dF wl bQ aa Or L e p i A st J d f=>q a b _ aa e A st (p.fin O c J d f))
theorem aec (B:Base W P) (O:l6 G cD) (v:G.Ok) (x:dS H g G) {m:Nat} (bo:G.cC 0=some m) (a1:G.cC 1=some 0) (w:m≠0) (y:∀aa,Ext H aa->E aa):dw W (r+7) .om [.ref g,.int 2] H (λ _ _=>False) E:=
 ZC B (P9 B O v x (most:=2) (.inl rfl) (λ _=>y) λ a D aj dF wl bQ aa Or L e p n A st J f F=>by
  obtain ⟨C,o⟩:=p.6.3;have bS:∀{S:SVal} (d:tN G aj S) {i X:Nat},fg G (cm S.aU) i->G.cC i=some X->dB λ (j:Nat) (T:SVal)=>aj[j]? =some T∧0<j∧T.sym=(X:Nat)∧i+1∈ar T.aU:=λ {S} d {i X} J f=>by
   have q:X∈G.syms S.items:=(d.1.r9.2 X).mpr ⟨i,J,f⟩;have s:=q;rw [<- d.4] at s;obtain ⟨z,hz,rfl⟩:=bH.mp s;obtain ⟨T,c⟩:=d.5 z.1 z.2 hz;have t:=p.P7 O c.1 q c.2;refine ⟨z.2,T,c.1,t.1,t.2,?_⟩;rw [<- c.2.1];exact ((d.1.go z.1).2 (i+1)).mpr ⟨i,rfl,J,f⟩
  obtain ⟨j,T,b⟩:=bS (p.all o.1) (.base (show 0∈ar C.aU by rw [<- o.2.1.1];simp [au.dY,ar,mX])) bo
  obtain ⟨k,U,h⟩:=bS (p.all b.1) (.base b.2.2.2) a1;have l:=h.1;have u:=h.2.2.1;have:j=k:=dg (ci (.l .p (.k 2)<| .l (.s (.k 0)) .q<| .l (.s .r) .p<| .g .r .q) rfl n h.2.1 ((cF.mp b.1).1)) (ci (.l .p (.k 2)<| .l (.s (.k 0)) .q<| .l (.s .r) .p<| .g .r .q) rfl n b.2.1 ((cF.mp l).1));subst this;rw [b.1] at l;cases l;rw [b.2.2.1] at u;exact w (fU u))
end
section
variable {G:au} {df:aS->Prop}
theorem tT {K:Nat->Nat->Prop} (h:d9 G nul aT c K τ i):fg G c i:=by
 induction h with
 | base a _=>exact .base a
 | gP a b _=>exact .step a b
 | prop _ b _ ih=>exact .step ih b
theorem aee {K L:Nat->Nat->Prop} (e:∀k,K k τ->L k τ) (h:d9 G nul aT c K τ i):d9 G nul aT c L τ i:=by
 induction h with
 | base a b=>exact .base a (e _ b)
 | gP a b d=>exact .gP a b d
 | prop _ b d ih=>exact .prop ih b d
theorem He {K:Nat->Nat->Prop} (h:d9 G nul aT c K τ i):(∀L,d9 G nul aT c L τ i)∨∃k,c k∧K k τ∧∀L σ,L k σ->d9 G nul aT c L σ i:=by
 induction h with
 | base a b=>exact .inr ⟨_,a,b,λ L σ h=> .base a h⟩
 | gP a b d=>exact .inl λ L=> .gP a b d
 | prop _ b d ih=>exact ih.imp (λ h L=> .prop (h L) b d) λ z=>z.elim λ k z=>⟨k,z.1,z.2.1,λ L σ h=> .prop (z.2.2 L σ h) b d⟩
theorem tU (a:(ar K).Nodup) {k:Nat}:cE K k τ↔∃m,br K k=some m∧m.testBit τ=true:=⟨λ z=>z.elim λ m z=>⟨m,ew a z.1,z.2⟩,λ z=>z.elim λ m z=>⟨m,g4 z.1,z.2⟩⟩
theorem qu {k:Nat}:cE K k τ↔∃n,n<K.length∧fP K n=k∧(bV K n).testBit τ=true:=by
 constructor
 ·rintro ⟨m,J,b⟩;obtain ⟨n,a,e⟩:=mi J;exact ⟨n,a,by simp [fP,a,e],by simp [bV,a,e,b]⟩
 ·rintro ⟨n,a,J,b⟩;refine ⟨bV K n,?_,b⟩;have:K[n]=(k,bV K n):=by rw [<- J];simp [fP,bV,a]
  rw [<- this];exact jd a
theorem ajP (c:(ar K).Nodup) (a:i<K.length) (b:j<K.length) (e:fP K i=fP K j):i=j:=by
 refine yF (l:=K) (f:=λ p=>p.1) (show (K.map λ p=>p.1).Nodup from c) (c4 a) (c4 b) ?_;simpa [fP,a,b] using e
noncomputable abbrev Hf (G:au) (fy:aS->Prop):Prop:=A2 (∀C,fy C->fQ G C∧∃es,c1 G G.bN G.bR C es∧∀X∈G.syms es,fy (G.goto es X)) (fy G.dY)
noncomputable abbrev n5 (fy:aS->Prop) (K:aS):Prop:=gR (∃C,fy C∧ar C=ar K) (∀k τ,cE K k τ->∃C,fy C∧ar C=ar K∧cE C k τ) (∀k l τ,k≠l->cE K k τ->cE K l τ->dB λ C σ=>fy C∧ar C=ar K∧cE C k σ∧cE C l σ)
theorem n5.yY (x:n5 fy K) (h:d9 G G.bN G.bR (cm K) (cE K) τ i):∃C,fy C∧ar C=ar K∧d9 G G.bN G.bR (cm K) (cE C) τ i:=by
 rcases He h with h | ⟨k,J,c,d⟩
 ·obtain ⟨C,a,b⟩:=x.1;exact ⟨C,a,b,h _⟩
 ·obtain ⟨C,a,b,e⟩:=x.2 k τ c;exact ⟨C,a,b,d _ _ e⟩
theorem n5.Qa (x:n5 fy K) (g:d9 G G.bN G.bR (cm K) (cE K) τ i) (h:d9 G G.bN G.bR (cm K) (cE K) τ j):dB λ C σ=>fy C∧ar C=ar K∧d9 G G.bN G.bR (cm K) (cE C) σ i∧d9 G G.bN G.bR (cm K) (cE C) σ j:=by
 rcases He g with a | ⟨k,a1,a2,bA⟩
 ·obtain ⟨C,d,f,c⟩:=x.yY h;exact ⟨C,τ,d,f,a _,c⟩
 ·rcases He h with b | ⟨l,cM,n,m⟩
  ·obtain ⟨C,d,f,c⟩:=x.yY g;exact ⟨C,τ,d,f,c,b _⟩
  ·by_cases e:k=l
   ·subst e;obtain ⟨C,d,f,c⟩:=x.2 k τ a2;exact ⟨C,τ,d,f,bA _ _ c,m _ _ c⟩
   ·obtain ⟨C,σ,d,f,c,o⟩:=x.3 k l τ e a2 n;exact ⟨C,σ,d,f,bA _ _ c,m _ _ o⟩
theorem v3 {C:aS} (h:ar C=ar K):cm C=cm K:=by unfold cm;rw [h]
theorem kb {K es:aS} (x:c1 G G.bN G.bR K es) {X k τ:Nat}:cE (G.goto es X) k τ↔∃i,k=i+1∧G.cC i=some X∧d9 G G.bN G.bR (cm K) (cE K) τ i:=by
 constructor
 ·rintro ⟨m,J,a⟩;obtain ⟨i,b⟩:=mQ.mp J;exact ⟨i,b.1,b.2.2,(x.3 i m (ew x.1 b.2.1) τ).mp a⟩
 ·rintro ⟨i,rfl,J,a⟩;obtain ⟨m,c⟩:=hh.mp (ey.mpr ((x.2 i).mpr (tT a)));exact ⟨m,mQ.mpr ⟨i,rfl,g4 c,J⟩,(x.3 i m c τ).mpr a⟩
theorem aef {es:aS} (x:c1 G G.bN G.bR K es) (y:c1 G G.bN G.bR L fs) (h:ar L=ar K) (X:Nat):ar (G.goto fs X)=ar (G.goto es X):=by
 have:=y.go X;rw [h] at this;exact this.eq (x.go X)
theorem Qb {es:aS} (x:c1 G G.bN G.bR K es) (y:c1 G G.bN G.bR L fs) (h:ar L=ar K):G.syms fs=G.syms es:=by
 have:=y.r9;rw [h] at this;exact this.eq x.r9
theorem aeg (O:Hf G fy) {es:aS} (x:n5 fy K) (c:c1 G G.bN G.bR K es) {X:Nat} (r:X∈G.syms es):n5 fy (G.goto es X):=by
 have next:∀C,fy C->ar C=ar K->∃D,fy D∧ar D=ar (G.goto es X)∧∀i σ,G.cC i=some X->d9 G G.bN G.bR (cm K) (cE C) σ i->cE D (i+1) σ:=λ C J m=>by
  obtain ⟨fs,f⟩:=(O.1 C J).2;refine ⟨G.goto fs X,f.2 X (by rw [Qb c f.1 m];exact r),aef c f.1 m X,λ i σ a d=>(kb f.1).mpr ⟨i,rfl,a,?_⟩⟩
  rw [v3 m];exact d
 refine ⟨?_,λ k τ h=> ?_,λ k l τ s h h'=> ?_⟩
 ·obtain ⟨C,p⟩:=x.1;obtain ⟨D,q⟩:=next C p.1 p.2;exact ⟨D,q.1,q.2.1⟩
 ·obtain ⟨i,rfl,a,d⟩:=(kb c).mp h;obtain ⟨C,n⟩:=x.yY d;obtain ⟨D,o⟩:=next C n.1 n.2.1;exact ⟨D,o.1,o.2.1,o.2.2 i τ a n.2.2⟩
 ·obtain ⟨i,rfl,a,d⟩:=(kb c).mp h;obtain ⟨j,rfl,b,e⟩:=(kb c).mp h';obtain ⟨C,σ,g⟩:=x.Qa d e;obtain ⟨D,aD⟩:=next C g.1 g.2.1;exact ⟨D,σ,aD.1,aD.2.1,aD.2.2 i σ a g.2.2.1,aD.2.2 j σ b g.2.2.2⟩
theorem yZ (h:ar K=ar L) {k τ:Nat}:cE (c3 K L) k τ↔cE K k τ∨cE L k τ:=by
 have e:K.length=L.length:=by simpa [ar] using (congrArg gz h)
 have d:(c3 K L).length=K.length:=by simp [c3]
 have c:∀n,fP (c3 K L) n=fP K n∧fP L n=fP K n:=λ n=>by
  rw [tM,tM,tM,kH,h];exact ⟨rfl,rfl⟩
 rw [qu,qu,qu];constructor
 ·rintro ⟨n,J,b,a⟩;rw [r8 h,hA,wV] at a;rw [(c n).1] at b;exact a.imp (λ a=>⟨n,bx J (bE d),b,a⟩) λ a=>⟨n,bx (bx J (bE d)) (bE e),by rw [(c n).2];exact b,a⟩
 ·rintro (⟨n,J,b,a⟩ | ⟨n,J,b,a⟩)
  ·exact ⟨n,bx J (bE d.symm),by rw [(c n).1];exact b,by rw [r8 h,hA,a,Jb]⟩
  ·exact ⟨n,eZ (.f .p .q<| .f .r .p<| .l (.s .t) .q<| .g (.s .t) .r) rfl e d J,by rw [(c n).1,<- (c n).2];exact b,by rw [r8 h,hA,a,Tu]⟩
theorem aeh (x:n5 fy K) (y:n5 fy L) (N:(ar K).Nodup) (h:ar K=ar L) (w:il K L):n5 fy (c3 K L):=by
 have ao:=kH K L;have q:K.length=L.length:=by have:=congrArg gz h;simpa [ar] using this
 have r:∀n,fP L n=fP K n:=λ n=>by rw [tM,tM,h]
 have u:∀k l τ,k≠l->cE L k τ->cE L l τ->dB λ C σ=>fy C∧ar C=ar (c3 K L)∧cE C k σ∧cE C l σ:=λ k l τ c a b=>by
  obtain ⟨C,σ,d,f,g⟩:=y.3 k l τ c a b;exact ⟨C,σ,d,by rw [f,ao,h],g⟩
 have v:∀k l τ,k≠l->cE K k τ->cE K l τ->dB λ C σ=>fy C∧ar C=ar (c3 K L)∧cE C k σ∧cE C l σ:=λ k l τ c a b=>by
  obtain ⟨C,σ,d,f,g⟩:=x.3 k l τ c a b;exact ⟨C,σ,d,by rw [f,ao],g⟩
 have z:∀{a b:Nat},a&&&b≠0->∃σ,a.testBit σ=true∧b.testBit σ=true:=λ {a b} E=>by
  refine eo λ F=>E (pC λ σ=> ?_);rw [Ji,Jj];cases J:a.testBit σ with
  | false=>rfl
  | true=>
   cases G:b.testBit σ with
   | false=>rfl
   | true=>exact absurd ⟨σ,J,G⟩ F
 have A:∀k l τ,k≠l->cE K k τ->cE L l τ->dB λ C σ=>fy C∧ar C=ar (c3 K L)∧cE C k σ∧cE C l σ:=λ k l τ c a b=>by
  obtain ⟨n,i⟩:=qu.mp a;obtain ⟨m,s⟩:=qu.mp b;have t:=s.1;have o:=s.2.1;rw [r] at o;have H:n≠m:=by rintro rfl;exact c (i.2.1.symm.trans o)
  have B:bV K n&&&bV L m≠0:=λ e=>by
   have:=congrArg (·.testBit τ) e;simp only [Ji,i.2.2,s.2.2,Jj] at this;cases this
  have I:bV K n&&&bV K m≠0∨bV L n&&&bV L m≠0:=by
   rcases pv n m with bK | M
   ·rcases w n m bK (bx t (bE q.symm)) with h' | h' | h'
    ·exact absurd h'.1 B
    ·exact .inl h'
    ·exact .inr h'
   ·rcases w m n (sA (bD (.l .p .q<| .g .p .q) rfl M) (hy H)) i.1 with h' | h' | h'
    ·exact absurd h'.2 B
    ·exact .inl (by rw [z0];exact h')
    ·exact .inr (by rw [z0];exact h')
  rcases I with h' | h'
  ·obtain ⟨σ,D⟩:=z h';exact v k l σ c (qu.mpr ⟨n,i.1,i.2.1,D.1⟩) (qu.mpr ⟨m,bx t (bE q.symm),o,D.2⟩)
  ·obtain ⟨σ,aD⟩:=z h';exact u k l σ c (qu.mpr ⟨n,bx i.1 (bE q),by rw [r];exact i.2.1,aD.1⟩) (qu.mpr ⟨m,t,by rw [r];exact o,aD.2⟩)
 refine ⟨?_,λ k τ j=> ?_,λ k l τ c a b=> ?_⟩
 ·obtain ⟨C,d,f⟩:=x.1;exact ⟨C,d,by rw [ao];exact f⟩
 ·rcases (yZ h).mp j with j | j
  ·obtain ⟨C,d,f,g⟩:=x.2 k τ j;exact ⟨C,d,by rw [ao];exact f,g⟩
  ·obtain ⟨C,d,f,g⟩:=y.2 k τ j;exact ⟨C,d,by rw [ao,h];exact f,g⟩
 ·rcases (yZ h).mp a with a | a<;>rcases (yZ h).mp b with b | b
  ·exact v k l τ c a b
  ·exact A k l τ c a b
  ·obtain ⟨C,σ,p⟩:=A l k τ (hy c) b a;exact ⟨C,σ,p.1,p.2.1,p.2.2.2,p.2.2.1⟩
  ·exact u k l τ c a b
theorem aej (h:fy G.dY):n5 fy G.dY:=⟨⟨_,h,rfl⟩,λ k τ c=>⟨_,h,rfl,c⟩,λ k l τ _ a b=>⟨_,τ,h,rfl,a,b⟩⟩
structure sf (G:au) (df:aS->Prop):Prop extends B0 G df where
 c3:∀K L,df K->df L->fQ G K->fQ G L->ar K=ar L->df (c3 K L)
theorem aek (a:fQ G K) (b:fQ G L) (h:ar K=ar L):fQ G (c3 K L):=by
 refine ⟨by rw [kH];exact a.1,λ p f=> ?_⟩
 obtain ⟨n,g,e⟩:=mi f;have c:n<K.length:=by simpa [c3] using g
 have d:K.length=L.length:=by have:=congrArg gz h;simpa [ar] using this
 have i:p=(fP K n,bV K n|||bV L n):=by rw [<- e];simp [c3]
 have a1:=a.2 _ (jd c);rw [i];refine ⟨by simpa [fP,c] using a1.1,DF (by simpa [bV,c] using a1.2) ?_⟩
 simpa [bV,(bx c (bE d):n<L.length)] using (b.2 _ (jd (show n<L.length by exact bx c (bE d)))).2
def Hg (G:au) (df fy:aS->Prop) (K:aS):Prop:=df K∧n5 fy K∧fQ G K
theorem Qg (e:G.Ok) (F:sf G df) (O:Hf G fy):l6 G (Hg G df fy):=
 ⟨λ K h=>h.2.2,⟨F.start,aej O.2,o4 e⟩,λ K es h c X d=>⟨F.goto K es h.1 c X d,aeg O h.2.1 c d,Gy c X⟩,
  λ K L a b h w=>⟨F.c3 K L a.1 b.1 a.2.2 b.2.2 h,aeh a.2.1 b.2.1 a.2.2.nodup h w,aek a.2.2 b.2.2 h⟩,λ l J f=>F.bound l J λ K h=>(f K h).1⟩
def Hh (aj:b9) (K:aS):Prop:=∃S∈aj,S.aU=K
theorem Qh (x:o7 G df aj aj.length):Hf G (Hh aj):=by
 refine ⟨λ C ⟨S,J,e⟩=> ?_,?_⟩
 ·subst e;obtain ⟨i,a⟩:=oh J;have d:=x.6 i S a (cF.mp a).1;refine ⟨(x.2 S J).2,S.items,d.1,λ X b=> ?_⟩;rw [<- d.4] at b;obtain ⟨p,f,rfl⟩:=bH.mp b;obtain ⟨T,c⟩:=d.5 p.1 p.2 f;exact ⟨T,cY c.1,c.2⟩
 ·obtain ⟨S,aD⟩:=x.3;exact ⟨S,cY aD.1,aD.2⟩
end
section
variable {G:au}
theorem Qi {α:Type} [DecidableEq α]:∀{l m:List α},l.Nodup->(∀a∈l,a∈m)->l.length<=m.length:=by
 intro l
 induction l with
 | nil=>intro m _ _;exact dz _
 | cons a l ih=>
  intro m c d;rw [kP] at c;have e:=d a (.head _);rw [f7];exact eZ (.l .p .q<| .e .q .r<| .l (.s .r) .t<| .g (.s .p) .t) rfl (ih (m:=m.erase a) c.2 λ b f=>(List.mem_erase_of_ne (by rintro rfl;exact c.1 f)).mpr (d b (.tail _ f))) (List.length_erase_of_mem e) (bE (ef (ct (.l (.s (.k 0)) .p<| .g .o .p) rfl (List.length_pos_of_mem e))))
theorem Hi (cw:(ar K).Pairwise (·< ·)) (b:(ar L).Pairwise (·< ·)) (h:∀i,br K i=br L i):K=L:=by
 have ao:ar K=ar L:=vR cw b λ i=>by rw [<- ey,<- ey,h]
 have d:K.length=L.length:=by have:=congrArg gz ao;simpa [ar] using this
 refine uv d λ i J c=> ?_;have a:=ew (cw.imp λ h=>e6 h:(ar K).Nodup) (i:=K[i].1) (v:=K[i].2) (jd J);have e:K[i].1=L[i].1:=by
  simpa [ar,J,c] using (by rw [ao]:(ar K)[i]? =(ar L)[i]?)
 rw [h,e,(ew (b.imp λ h=>e6 h:(ar L).Nodup) (i:=L[i].1) (v:=L[i].2) (jd c))] at a;exact ux e (dA a).symm
theorem ael (b:(ar K).Nodup) (c:(ar L).Nodup) (ao:∀i,i∈ar K↔i∈ar L) (d:∀i τ,cE K i τ↔cE L i τ) (i:Nat):br K i=br L i:=by
 cases e:br K i with
 | none=>
  rw [nW,ao,<- nW] at e;exact e.symm
 | some m=>
  obtain ⟨n,a⟩:=hh.mp (ey.mpr ((ao i).mp (ey.mp (by rw [e];rfl))))
  rw [a]
  congr 1
  refine pC λ τ=> ?_;have:=d i τ;rw [tU b,tU c,e,a] at this;simp only [A2.iff,DH,exists_eq_left'] at this;cases J:m.testBit τ with
  | true=>exact (this.mp J).symm
  | false=>
   cases f:n.testBit τ with
   | false=>rfl
   | true=>rw [this.mpr f] at J;cases J
theorem y0 (cw:(ar K).Pairwise (·< ·)) (a:(ar L).Pairwise (·< ·)) (ao:∀i,i∈ar K↔i∈ar L) (b:∀i τ,cE K i τ↔cE L i τ):K=L:=
 Hi cw a (ael (cw.imp λ h=>e6 h) (a.imp λ h=>e6 h) ao b)
noncomputable def kj (p:Nat->Prop):Nat->Nat
 | 0=>0
 | k+1=>kj p k+if p k then 2^k else 0
theorem Qj {p:Nat->Prop} {k:Nat}:kj p (k+1)=kj p k+if p k then 2^k else 0:=rfl
theorem Qk (p:Nat->Prop):∀k,kj p k<2^k∧∀τ,(kj p k).testBit τ=true↔τ<k∧p τ:=by
 intro k
 induction k with
 | zero=>
  exact ⟨Nat.one_pos,λ τ=>by simp [show kj p 0=0 from rfl]⟩
 | succ k ih=>
  have aD:=ih;have a:2^(k+1)=2^k+2^k:=by rw [SK];exact dg (ct (.g (.w 2 .p) (.a .p .p)) rfl) (ct (.g (.a .p .p) (.w 2 .p)) rfl)
  by_cases h:p k
  ·have e:kj p (k+1)=2^k+kj p k:=by rw [Qj,if_pos h];exact dg (bD (.g (.a .p .q) (.a .q .p)) rfl) (bD (.g (.a .p .q) (.a .q .p)) rfl)
   refine ⟨eZ (.l (.s .p) .q<| .f .r (.a .q .q)<| .e .t (.a .q .p)<| .g (.s .t) .r) rfl aD.1 a e,λ τ=> ?_⟩;rw [e];rcases ahc τ k with J | J | J
   ·rw [Nat.testBit_two_pow_add_gt J,aD.2];exact ⟨λ h=>⟨bX J (gj _),h.2⟩,λ h=>⟨J,h.2⟩⟩
   ·subst J;rw [Nat.testBit_two_pow_add_eq,w0 aD.1];exact ⟨λ _=>⟨gj _,h⟩,λ _=>rfl⟩
   ·rw [w0 (bx (show 2^k+kj p k<2^(k+1) by exact ci (.l (.s .p) .q<| .f .r (.a .q .q)<| .g (.s (.a .q .p)) .r) rfl aD.1 a) (zY (by decide) J))]
    exact ⟨λ h=>(by cases h),λ h=>by have:=h.1;exact (fR 0 (bD (.l (.s .p) .q<| .l (.s .q) (.s .p)<| .g .o (.k 0) (n:=0)) rfl J h.1)).elim⟩
  ·have e:kj p (k+1)=kj p k:=by rw [Qj,if_neg h];exact dg (ct (.g (.a .p (.k 0)) .p) rfl) (ct (.g .p (.a .p (.k 0))) rfl)
   rw [e];refine ⟨ci (.l (.s .p) .q (n:=2)<| .f .r (.a .q .q)<| .g (.s .p) .r) rfl aD.1 a,λ τ=> ?_⟩;rw [aD.2];refine ⟨λ h=>⟨bX h.1 (gj _),h.2⟩,λ h'=>⟨?_,h'.2⟩⟩;rcases pv τ k with J | J
   ·exact J
   ·have:τ=k:=dg (iw h'.1) J;subst this;exact absurd h'.2 h
theorem mY (O:G.Ok) (aI:∀i,c i->i<G.N) (h:fg G c i):i<G.N:=by
 induction h with
 | base h=>exact aI _ h
 | step _ h _=>obtain ⟨b,r,_,_,J,rfl⟩:=h;exact au.tD (au.tE.mp J).1
theorem aen (O:G.Ok) (cw:fQ G K) (h:d9 G G.bN G.bR (cm K) (cE K) τ i):τ<12:=by
 have key:∀{m τ:Nat},m<2^12->m.testBit τ=true->τ<12:=λ {m τ} a h=>by
  rcases pv τ 12 with h' | h'
  ·exact h'
  ·rw [w0 (bx a (zY (by decide) h'))] at h;cases h
 induction h with
 | base _ b=>obtain ⟨m,J,c⟩:=b;exact key (cw.2 _ J).2 c
 | gP _ _ d=>exact key (Gc (OD O).2 _ _ (by decide)) d
 | prop _ _ _ ih=>exact ih
theorem Cq (O:G.Ok) (cw:fQ G K):∃es,c1 G G.bN G.bR K es:=by
 have aI:∀i,cm K i->i<G.N:=λ i h=>by
  obtain ⟨p,c,rfl⟩:=bH.mp h;exact (cw.2 p c).1
 refine ⟨((cg G.N).filter λ i=>decide (fg G (cm K) i)).map λ i=>(i,kj (λ τ=>d9 G G.bN G.bR (cm K) (cE K) τ i) 12),?_⟩;have a:ar (((cg G.N).filter λ i=>decide (fg G (cm K) i)).map λ i=>(i,kj (λ τ=>d9 G G.bN G.bR (cm K) (cE K) τ i) 12))=(cg G.N).filter λ i=>decide (fg G (cm K) i):=by
  unfold ar;rw [e5];exact Tz _
 have d:(ar (((cg G.N).filter λ i=>decide (fg G (cm K) i)).map λ i=>(i,kj (λ τ=>d9 G G.bN G.bR (cm K) (cE K) τ i) 12))).Nodup:=by
  rw [a];exact IL _ C9
 have b:∀i m,br (((cg G.N).filter λ i=>decide (fg G (cm K) i)).map λ i=>(i,kj (λ τ=>d9 G G.bN G.bR (cm K) (cE K) τ i) 12)) i=some m->i<G.N∧m=kj (λ τ=>d9 G G.bN G.bR (cm K) (cE K) τ i) 12:=λ i m h=>by
  obtain ⟨j,f,e⟩:=bH.mp (g4 h);cases e;exact ⟨fK.mp (kS.mp f).1,rfl⟩
 refine ⟨d,λ i=> ?_,λ i m h τ=> ?_,λ i m h=> ?_⟩
 ·rw [a,kS,fK,decide_eq_true_eq];exact ⟨λ h=>h.2,λ h=>⟨mY O aI h,h⟩⟩
 ·obtain ⟨_,rfl⟩:=b i m h;rw [(Qk _ 12).2];exact ⟨λ h=>h.2,λ h=>⟨aen O cw h,h⟩⟩
 ·obtain ⟨J,rfl⟩:=b i m h;exact ⟨J,(Qk _ 12).1⟩
theorem ju {es:aS} (x:c1 G G.bN G.bR K es) {X i:Nat}:i∈ar (G.goto es X)↔∃j,i=j+1∧fg G (cm K) j∧G.cC j=some X:=(x.go X).2 i
theorem Hj {es:aS} (x:c1 G G.bN G.bR K es) (y:c1 G G.bN G.bR K fs) (X:Nat):G.goto es X=G.goto fs X:=
 y0 (lr x.1 X) (lr y.1 X) (λ i=>(ju x).trans (ju y).symm) λ i τ=>(kb x).trans (kb y).symm
theorem y1 {d e:Nat->Prop} (h:∀i,e i↔c i∨d i) {i:Nat}:fg G e i↔fg G c i∨fg G d i:=by
 constructor
 ·intro x
  induction x with
  | base a=>exact ((h _).mp a).imp .base .base
  | step _ b ih=>exact ih.imp (λ a=> .step a b) λ a=> .step a b
 ·rintro (x | x)
  ·induction x with
   | base a=>exact .base ((h _).mpr (.inl a))
   | step _ b ih=>exact .step ih b
  ·induction x with
   | base a=>exact .base ((h _).mpr (.inr a))
   | step _ b ih=>exact .step ih b
theorem aeo {d e:Nat->Prop} {K L M:Nat->Nat->Prop} {nul:cO} {aT:aw} {τ:Nat} (h:∀i,e i↔c i∨d i) (cw:∀i,K i τ->c i) (j:∀i,L i τ->d i) (g:∀i,M i τ↔K i τ∨L i τ):d9 G nul aT e M τ i↔d9 G nul aT c K τ i∨d9 G nul aT d L τ i:=by
 constructor
 ·intro x
  induction x with
  | base _ b=>exact ((g _).mp b).imp (λ b=> .base (cw _ b) b) λ b=> .base (j _ b) b
  | gP a b f=>exact ((y1 h).mp a).imp (λ a=> .gP a b f) λ a=> .gP a b f
  | prop _ b f ih=>exact ih.imp (λ a=> .prop a b f) λ a=> .prop a b f
 ·rintro (x | x)
  ·induction x with
   | base a b=>exact .base ((h _).mpr (.inl a)) ((g _).mpr (.inl b))
   | gP a b f=>exact .gP ((y1 h).mpr (.inl a)) b f
   | prop _ b f ih=>exact .prop ih b f
  ·induction x with
   | base a b=>exact .base ((h _).mpr (.inr a)) ((g _).mpr (.inr b))
   | gP a b f=>exact .gP ((y1 h).mpr (.inr a)) b f
   | prop _ b f ih=>exact .prop ih b f
theorem Qm {K:aS} {i:Nat} (h:cE K i τ):cm K i:=by
 obtain ⟨m,J,_⟩:=h;exact bH.mpr ⟨_,J,rfl⟩
theorem aep {M es f:aS} (x:c1 G G.bN G.bR K es) (y:c1 G G.bN G.bR L fs) (z:c1 G G.bN G.bR M f) (aI:∀i,cm M i↔cm K i∨cm L i) (g:∀i τ,cE M i τ↔cE K i τ∨cE L i τ) {X:Nat} (ao:ar (G.goto es X)=ar (G.goto fs X)):c3 (G.goto es X) (G.goto fs X)=G.goto f X:=by
 have s1:(ar (c3 (G.goto es X) (G.goto fs X))).Pairwise (·< ·):=by rw [kH];exact lr x.1 X
 refine y0 s1 (lr z.1 X) (λ i=> ?_) λ i τ=> ?_
 ·rw [kH];have a:=ju x (X:=X) (i:=i);rw [(ju z (X:=X) (i:=i))];constructor
  ·intro h;obtain ⟨j,aD⟩:=a.mp h;exact ⟨j,aD.1,(y1 aI).mpr (.inl aD.2.1),aD.2.2⟩
  ·rintro ⟨j,c,b,e⟩;rcases (y1 aI).mp b with b | b
   ·exact a.mpr ⟨j,c,b,e⟩
   ·rw [ao];exact (ju y (X:=X) (i:=i)).mpr ⟨j,c,b,e⟩
 ·rw [yZ ao,kb x,kb y,kb z];have d:=λ {j:Nat}=>aeo (G:=G) (nul:=G.bN) (aT:=G.bR) (τ:=τ) aI (λ i h=>Qm (K:=K) h) (λ i h=>Qm (K:=L) h) (λ i=>g i τ) (i:=j);constructor
  ·rintro (⟨j,c,b,e⟩ | ⟨j,c,b,e⟩)
   ·exact ⟨j,c,b,d.mpr (.inl e)⟩
   ·exact ⟨j,c,b,d.mpr (.inr e)⟩
  ·rintro ⟨j,c,b,e⟩;exact (d.mp e).imp (λ h=>⟨j,c,b,h⟩) λ h=>⟨j,c,b,h⟩
theorem Qn {es:aS} (x:c1 G G.bN G.bR K es) (y:c1 G G.bN G.bR L fs) {Z:Nat} (aI:∀i,cm L i->cm K i) (hd:∀i,cm K i->cm L i∨((∀j,¬G.Child i j)∧G.cC i≠some Z)) (c:∀i τ,cm L i->(cE L i τ↔cE K i τ)):G.goto es Z=G.goto fs Z:=by
 have r:∀{i},fg G (cm K) i->fg G (cm L) i∨((∀j,¬G.Child i j)∧G.cC i≠some Z):=λ {i} h=>by
  induction h with
  | base a=>exact (hd _ a).imp .base id
  | step _ b ih=>exact ih.elim (λ h=> .inl (.step h b)) λ h=>absurd b (h.1 _)
 have e:∀{i},fg G (cm L) i->fg G (cm K) i:=λ {i} h=>by
  induction h with
  | base a=>exact .base (aI _ a)
  | step _ b ih=>exact .step ih b
 have d:∀{τ i},d9 G G.bN G.bR (cm K) (cE K) τ i->d9 G G.bN G.bR (cm L) (cE L) τ i∨((∀j,¬G.Child i j)∧G.cC i≠some Z):=λ {τ i} h=>by
  induction h with
  | base a b=>exact (hd _ a).imp (λ h=> .base h ((c _ _ h).mpr b)) id
  | gP a b f=>exact (r a).elim (λ h=> .inl (.gP h b f)) λ h=>absurd b (h.1 _)
  | prop _ b f ih=>exact ih.elim (λ h=> .inl (.prop h b f)) λ h=>absurd b (h.1 _)
 have g:∀{τ i},d9 G G.bN G.bR (cm L) (cE L) τ i->d9 G G.bN G.bR (cm K) (cE K) τ i:=λ {τ i} h=>by
  induction h with
  | base a b=>exact .base (aI _ a) ((c _ _ a).mp b)
  | gP a b f=>exact .gP (e a) b f
  | prop _ b f ih=>exact .prop ih b f
 refine y0 (lr x.1 Z) (lr y.1 Z) (λ i=> ?_) λ i τ=> ?_
 ·rw [ju x,ju y];exact ⟨λ z=>z.elim λ j z=>⟨j,z.1,(r z.2.1).elim id λ h=>absurd z.2.2 h.2,z.2.2⟩,λ z=>z.elim λ j z=>⟨j,z.1,e z.2.1,z.2.2⟩⟩
 ·rw [kb x,kb y];exact ⟨λ z=>z.elim λ j z=>⟨j,z.1,z.2.1,(d z.2.2).elim id λ h=>absurd z.2.1 h.2⟩,λ z=>z.elim λ j z=>⟨j,z.1,z.2.1,g z.2.2⟩⟩
end
section
variable {G:au}
def Tm (G:au) (τ:Nat):Prop:=τ<G.t∧∃r,r<G.R∧τ∈G.right r
def qv (G:au) (aT:aw):Prop:=∀X τ,(aT.getD X 0).testBit τ=true->(τ=X∧X<G.t)∨Tm G τ
theorem Qo (x:qv G aT):∀(l:aw) (m:Nat),(∀X∈l,∃r,r<G.R∧X∈G.right r)->(∀τ,m.testBit τ=true->Tm G τ)->∀τ,(firstOf nul aT l m).1.testBit τ=true->Tm G τ:=by
 intro l
 induction l with
 | nil=>
  exact λ m _ a τ h=>a τ h
 | cons X l ih=>
  intro m b a τ h;have c:∀τ,(m|||aT.getD X 0).testBit τ=true->Tm G τ:=λ τ h=>by
   rw [hA,wV] at h;rcases h with h | h
   ·exact a τ h
   ·rcases x X τ h with ⟨rfl,h⟩ | h
    ·exact ⟨h,b _ (.head _)⟩
    ·exact h
  rw [NM] at h
  split at h
  ·exact ih _ (λ X d=>b X (.tail _ d)) c τ h
  ·exact c τ h
theorem Qp (h:r<G.R):∀X∈G.right r,∃r,r<G.R∧X∈G.right r:=λ X a=>⟨r,h,a⟩
theorem aeq:qv G G.kE:=λ X τ h=>by
 left;unfold au.kE at h;simp only [eS,ff] at h;cases e:(cg G.n)[X]? with
 | none=>rw [e] at h;simp at h
 | some s=>
  obtain ⟨J,a⟩:=cF.mp e;rw [De] at a;subst a;rw [e] at h;simp only [DE,Jh] at h
  split at h
  ·rw [Nat.testBit_two_pow,decide_eq_true_eq] at h;rename_i h';exact ⟨h.symm,h'⟩
  ·simp at h
theorem aer {p:aw×Bool} (x:qv G p.1) (b:i<G.R):qv G (G.fh p i).1:=by
 unfold au.fh
 split
 ·exact x
 ·intro X τ h;dsimp only at h
  by_cases e:X=G.left i
  ·subst e
   by_cases a:G.left i<p.1.length
   ·rw [eS,hP a,Jh,hA,wV] at h;rcases h with h | h
    ·exact x _ τ h
    ·exact .inr (Qo x _ _ (Qp b) (λ τ h=>by simp at h) τ h)
   ·rw [List.set_eq_of_length_le (fD a)] at h;exact x _ τ h
  ·rw [eS,iS (λ h=>e h.symm)] at h;exact x X τ (by rw [eS];exact h)
theorem aes (x:qv G aT):∀i,i<=G.R->qv G (G.i8 aT i).1:=by
 intro i
 induction i with
 | zero=>
  exact λ _=>x
 | succ i ih=>
  intro h;rw [Gk];exact aer (ih (bF (uu h))) (uu h)
theorem aet:∀(f:Nat) (aT:aw),qv G aT->qv G (G.r0 f aT):=by
 intro f
 induction f with
 | zero=>
  exact λ _ x=>x
 | succ f ih=>
  intro aT x;have:=aes x G.R (dn _);rw [au.OB]
  split
  ·exact ih _ this
  ·exact this
theorem aeu:qv G G.bR:=aet _ _ aeq
theorem aev (a:i<G.N) (h:(G.hX G.bN G.bR i).1.testBit τ=true):Tm G τ:=
 Qo aeu _ _ (λ X b=>Qp (au.jK a).1 X (IM b)) (λ τ h=>by simp at h) τ h
theorem Qq (O:G.Ok) (cw:fQ G K) (h:d9 G G.bN G.bR (cm K) (cE K) τ i):Tm G τ∨∃k,cE K k τ:=by
 induction h with
 | base _ b=>exact .inr ⟨_,b⟩
 | gP a _ f=>exact .inl (aev (mY O (λ i h=>by
   obtain ⟨p,c,rfl⟩:=bH.mp h;exact (cw.2 p c).1) a) f)
 | prop _ _ _ ih=>exact ih
end
section
variable {G:au}
noncomputable abbrev eN (G:au):Prop:=jC (G.Ok) (G.t<=5) (3<=G.t) (G.left 0=G.t∧G.right 0=[G.t+1,0]) (∀r,0<r->r<G.R->(G.left r=G.t+1∨G.left r=G.t+2)∧(G.right r).length<=2∧∀X∈G.right r,(3<=X/\ X<G.t)∨X=G.t+1∨X=G.t+2)
noncomputable def g9:aw:=[0,1,8,9,16,17,24,25]
noncomputable def opts:List (Option Nat):=none::g9.map some
noncomputable def kL (G:au):aw:=[3,4,G.t+1,G.t+2]
noncomputable def tV (G:au) (s a:Option Nat) (A:Nat):Option Nat:=if A=G.t+1 then s else a
theorem aew (h:∀τ,m.testBit τ=true->τ=0∨τ=3∨τ=4):m∈g9:=by
 have a:m<32:=by
  rcases pv m (2^5) with h' | h'
  ·exact h'
  ·obtain ⟨i,J,b⟩:=Nat.exists_ge_and_testBit_of_ge_two_pow h';rcases h i b with e | e | e<;>exact absurd (e▸J) (by decide)
 exact (by decide+kernel:∀m,m<32->(∀τ,τ<5->m.testBit τ=true->τ=0∨τ=3∨τ=4)->m∈g9) m a λ τ _=>h τ
theorem Qr:∀m∈g9,m<32∧∀τ,m.testBit τ=true->τ=0∨τ=3∨τ=4:=λ m a=>by
 have b:m<32:=by
  exact (by decide:∀m∈g9,m<32) m a
 refine ⟨b,λ τ h=> ?_⟩;have c:τ<5:=by
  rcases pv τ 5 with h' | h'
  ·exact h'
  ·rw [w0 (bx b (zY (n:=2) (by decide) h'))] at h;cases h
 exact (by decide+kernel:∀m∈g9,∀τ,τ<5->m.testBit τ=true->τ=0∨τ=3∨τ=4) m a τ c h
theorem eN.Qt (x:eN G) (h:Tm G τ):τ=0∨τ=3∨τ=4:=by
 obtain ⟨J,r,b,a⟩:=h;have:=x.2;rcases z1 r with rfl | c
 ·rw [x.4.2] at a;simp at a;exact a.elim (λ e=>absurd J (wz (bB (sF _) (bE e.symm)))) .inl
 ·exact ((x.5 r c b).2.2 τ a).elim (λ z=> .inr ((pv τ 4).imp (λ q=>dg (iw q) z.1) λ q=>dg (iw (bx z.2 this)) q)) λ z=>absurd J (wz (z.elim (λ e=>e▸sF _) λ e=>e▸fJ _ 2))
theorem eN.sym (x:eN G) {X:Nat} (b:0<r) (h:r<G.R) (c:X∈G.right r):X∈kL G∧X≠0:=by
 have a:=(x.5 r b h).2.2 X c;unfold kL;simp only [dZ,zm,or_false];exact ⟨a.elim (λ z=>(pv X 4).elim (λ h=> .inl (dg (iw h) z.1)) λ h=> .inr (.inl (dg (iw (bx z.2 x.2)) h))) λ z=> .inr (.inr z),λ e=>a.elim (λ z=>absurd (e▸z.1) (by decide)) λ z=>z.elim (λ z=>aix _ (z.symm.trans e)) λ z=>aix _ (z.symm.trans e)⟩
theorem eN.Qu (x:eN G):G.cC 0=some (G.t+1)∧G.cC 1=some 0∧G.cC 2=none∧2<G.N∧G.own 0=0∧G.own 1=0∧G.own 2=0∧G.dot 1=1∧G.dot 2=2∧G.dot 0=0:=by
 have h0:=x.1.4;have a:(G.right 0).length=2:=by rw [x.4.2];rfl
 have b:=au.kC (d:=0) h0 (dz _);have c:=au.kC (d:=1) h0 (ct (.f .p (.k 2)<| .g .o .p) rfl a);have e:=au.kC (d:=2) h0 (bE a.symm);have f:=au.ll (d:=0) h0 (dz _);have g:=au.ll (d:=1) h0 (ct (.f .p (.k 2)<| .g .o .p) rfl a);have h:=au.ll (d:=2) h0 (bE a.symm);have i:=au.oW (d:=2) h0 (bE a.symm);rw [mX] at b c e f g h i;simp only [me] at b c e f g h i;unfold au.cC;rw [b,c,e,f,g,h,x.4.2];exact ⟨rfl,rfl,rfl,i,rfl,rfl,rfl,rfl,rfl,rfl⟩
theorem eN.child (x:eN G) (c:i<G.N) (h:G.Child i j):∃r,0<r∧r<G.R∧j=G.off r:=by
 obtain ⟨b,r,J,k,f,rfl⟩:=h;have aD:=au.tE.mp f;have d:=aD.2;refine ⟨r,?_,aD.1,rfl⟩;rcases z1 r with rfl | g
 ·have a:=(au.qe c J).2.2.2.2;rw [x.4.1] at d;subst d;rcases z1 (G.own i) with e | e
  ·rw [e,x.4.2] at a;simp at a;exact bx (bx (by decide) x.3) (bE a)
  ·exact ((x.5 _ e ((au.jK c).1)).2.2 _ a).elim (λ z=>absurd z.2 (iP _)) λ z=>z.elim (λ e=>absurd e (e6 (gj _))) λ e=>absurd e (e6 (Su (by decide)))
 ·exact g
theorem pe (cw:fQ G K):∀i,cm K i->i<G.N:=λ i h=>by
 obtain ⟨p,a,rfl⟩:=bH.mp h;exact (cw.2 p a).1
theorem eN.reach (x:eN G) (cw:fQ G K) (h:fg G (cm K) i):cm K i∨∃r,0<r∧r<G.R∧i=G.off r:=by
 cases h with
 | base h=>exact .inl h
 | step a b=>exact .inr (x.child (mY x.1 (pe cw) a) b)
noncomputable def fa (G:au) (v:Nat->Option Nat) (Y:Nat):aS:=(cg G.R).filterMap λ r=>if 0<r/\ (G.right r)[0]? =some Y then (v (G.left r)).map λ m=>(G.off r+1,m) else none
theorem Cr {p:Nat×Nat}:p∈fa G v Y↔∃r,0<r∧r<G.R∧(G.right r)[0]? =some Y∧v (G.left r)=some p.2∧p.1=G.off r+1:=by
 unfold fa;rw [Dl];constructor
 ·rintro ⟨r,b,h⟩
  split at h
  ·rename_i aI;obtain ⟨m,J,a⟩:=iv.mp h;subst a;exact ⟨r,aI.1,fK.mp b,aI.2,J,rfl⟩
  ·cases h
 ·rintro ⟨r,J,a,c,d,e⟩;refine ⟨r,fK.mpr a,?_⟩;rw [if_pos ⟨J,c⟩,d,DE,<- e]
theorem aex {r:Nat} (h:r<s) (b:s<G.R):G.off r+(G.right r).length<G.off s:=by
 have a:=au.kC (r:=r) (d:=(G.right r).length) (bX h b) (dn _);have key:∀(rs:List (Nat×aw)) (k r s:Nat),r<s->s<rs.length->(i4 k rs).getD r 0+(rs.getD r (0,[])).2.length<(i4 k rs).getD s 0:=by
  intro rs
  induction rs with
  | nil=>intro k r s _ h;simp at h
  | cons x rs ih=>
   intro k r s J c;cases s with
   | zero=>exact (iP _ (a9 (dz _) J)).elim
   | succ s=>
    cases r with
    | zero=>
     simp only [oV,rU,Tt,DB];exact ci (.l (.a .p (.s .q)) .r<| .g (.s (.a .p .q)) .r) rfl ((NY rs 0 (k+(x.2.length+1)) s 0 (by simpa using c) (dz _)).1)
    | succ r=>
     simp only [oV,rU,DB];exact ih _ r s (sC J) (by simpa using c)
 exact key G.rules 0 r s h b
theorem tW {v:Nat->Option Nat}:(ar (fa G v Y)).Pairwise (·< ·):=by
 unfold ar fa;rw [aiy];refine aiz _ (R:=λ a b=>a<b∧b<G.R) (λ a b i c aI d hd=> ?_) ?_
 ·obtain ⟨p,f,rfl⟩:=iv.mp aI;obtain ⟨q,g,rfl⟩:=iv.mp hd;have j:p.1=G.off a+1:=by
   split at f
   ·obtain ⟨m,_,e⟩:=iv.mp f;rw [<- e]
   ·cases f
  have k:q.1=G.off b+1:=by
   split at g
   ·obtain ⟨m,_,e⟩:=iv.mp g;rw [<- e]
   ·cases g
  exact hC (.e .p (.s .q)<| .f .r (.s .t)<| .l (.s (.a .q .u)) .t<| .g (.s .p) .r) rfl j k (aex i.1 i.2)
 ·refine (aiA (n:=G.R)).imp_of_mem λ o l h=>⟨h,fK.mp l⟩
theorem sg {d e:Nat} (b:r<G.R) (c:s<G.R) (hd:d<=(G.right r).length) (f:e<=(G.right s).length) (h:G.off r+d=G.off s+e):r=s∧d=e:=by
 have a:=au.kC b hd;rw [h,(au.kC c f)] at a;subst a;exact ⟨rfl,dg (ci (.e (.a .p .q) (.a .p .r)<| .g .q .r) rfl h) (ci (.f (.a .p .q) (.a .p .r)<| .g .r .q) rfl h)⟩
theorem kd {X:Nat} (h:l[i]? =some X):i<l.length:=(cF.mp h).1
theorem pf:br (fa G v Y) i=some m↔∃r,0<r∧r<G.R∧(G.right r)[0]? =some Y∧v (G.left r)=some m∧i=G.off r+1:=
 ⟨λ h=>Cr.mp (g4 h),λ h=>ew (tW.imp λ h=>e6 h) (Cr (p:=(i,m)).mpr h)⟩
theorem Cs {Y:Nat} (b:∀A m,v A=some m->m∈g9):fQ G (fa G v Y):=by
 refine ⟨tW,λ p c=> ?_⟩;obtain ⟨r,a⟩:=Cr.mp c;refine ⟨by rw [a.2.2.2.2];exact au.oW a.2.1 (kd a.2.2.1),bx (Qr _ (b _ _ a.2.2.2.1)).1 (by decide)⟩
theorem Qv (a:(ar K).Pairwise (·< ·)) (h:∀i m,br K i=some m↔∃r,0<r∧r<G.R∧(G.right r)[0]? =some Y∧v (G.left r)=some m∧i=G.off r+1):K=fa G v Y:=
 Hi a tW λ i=>by
  cases e:br K i with
  | some m=>exact (pf.mpr ((h i m).mp e)).symm
  | none=>
   cases b:br (fa G v Y) i with
   | none=>rfl
   | some m=>rw [(h i m).mpr (pf.mp b)] at e;cases e
noncomputable def si (G:au) (es:aS) (A:Nat):Option Nat:=if h:∃r,0<r/\ r<G.R/\ G.left r=A then br es (G.off (aiB h)) else none
noncomputable abbrev KB (G:au) (K:aS):Prop:=gR (fQ G K) (∀r,0<r->r<G.R->¬cm K (G.off r)) (∀k τ,cE K k τ->τ=0∨τ=3∨τ=4)
theorem eN.aey (x:eN G) {es:aS} (b:KB G K) (c:c1 G G.bN G.bR K es) (j:0<r) (g:r<G.R) (o:0<s) (l:s<G.R) (h:G.left r=G.left s):br es (G.off r)=br es (G.off s):=by
 have one:∀{r s:Nat},0<r->r<G.R->0<s->s<G.R->G.left r=G.left s->(fg G (cm K) (G.off r)->fg G (cm K) (G.off s))∧∀τ,d9 G G.bN G.bR (cm K) (cE K) τ (G.off r)->d9 G G.bN G.bR (cm K) (cE K) τ (G.off s):=by
  intro r s j g o l h;have p:∀{i},i<G.N->G.Child i (G.off r)->G.Child i (G.off s):=λ {i} _ z=>by
   obtain ⟨b,A,z⟩:=z;have J:=z.1;have q:=z.2.1;have w:=z.2.2.1;have y:=z.2.2.2;have aD:=au.tE.mp w;have:=(sg (d:=0) (e:=0) g aD.1 (dz _) (dz _) y).1;subst this;exact ⟨b,s,J,q,au.tE.mpr ⟨l,by rw [<- h];exact aD.2⟩,rfl⟩
  refine ⟨λ h=> ?_,λ τ h=> ?_⟩
  ·generalize ao:G.off r=k at h;cases h with
   | base a=>subst ao;exact absurd a (b.2 r j g)
   | step a d=>subst ao;exact .step a (p (mY x.1 (pe b.1) a) d)
  ·generalize ao:G.off r=k at h;cases h with
   | base a _=>subst ao;exact absurd a (b.2 r j g)
   | gP a d f=>subst ao;exact .gP a (p (mY x.1 (pe b.1) a) d) f
   | prop a d f=>subst ao;exact .prop a (p (mY x.1 (pe b.1) (tT a)) d) f
 have t:=one j g o l h;have u:=one o l j g h.symm;cases e:br es (G.off r) with
 | none=>
  rw [nW,c.2] at e
  symm
  rw [nW,c.2];exact λ h=>e (u.1 h)
 | some m=>
  obtain ⟨n,v⟩:=hh.mp (ey.mpr ((c.2 _).mpr (t.1 ((c.2 _).mp (ey.mp (by rw [e];rfl))))))
  rw [v]
  congr 1
  refine pC λ τ=> ?_;have a:=c.3 _ m e τ;have d:=c.3 _ n v τ;cases J:m.testBit τ with
  | true=>exact (d.mpr (t.2 τ (a.mp J))).symm
  | false=>
   cases q:n.testBit τ with
   | false=>rfl
   | true=>rw [a.mpr (u.2 τ (d.mp q))] at J;cases J
theorem eN.Ct (x:eN G) {es:aS} (b:KB G K) (c:c1 G G.bN G.bR K es) (a:0<r) (d:r<G.R):si G es (G.left r)=br es (G.off r):=by
 have h:∃s,0<s/\ s<G.R/\ G.left s=G.left r:=⟨r,a,d,rfl⟩;unfold si;rw [dif_pos h];obtain ⟨J,e,f⟩:=aiC h;exact x.aey b c J e a d f
theorem eN.Cu (x:eN G) {es:aS} (b:KB G K) (c:c1 G G.bN G.bR K es) {A m:Nat} (h:si G es A=some m):m∈g9:=by
 unfold si at h
 split at h
 ·refine aew λ τ a=> ?_;have d:=(c.3 _ m h τ).mp a;rcases Qq x.1 b.1 d with h' | ⟨k,ao⟩
  ·exact x.Qt h'
  ·exact b.3 k τ ao
 ·cases h
theorem eN.y2 (x:eN G) {es:aS} (b:KB G K) (c:c1 G G.bN G.bR K es) {X:Nat} (f:0<r) (a:r<G.R) (g:(G.right r)[0]? =some X):br (G.goto es X) (G.off r+1)=some m↔si G es (G.left r)=some m:=by
 rw [x.Ct b c f a];have j:(ar (G.goto es X)).Nodup:=(lr c.1 X).imp λ h=>e6 h;have k:G.cC (G.off r)=some X:=by
  have o:=au.kC (d:=0) a (dz _);have d:=au.ll (d:=0) a (dz _);rw [sH] at o d;unfold au.cC;rw [o,d];exact g
 constructor
 ·intro h;obtain ⟨i,aD⟩:=mQ.mp (g4 h);have J:=aD.1;have e:=aD.2.1;dsimp only at J e;have:i=G.off r:=dg (bD (.f (.s .p) (.s .q)<| .g .q .p) rfl J) (bD (.e (.s .p) (.s .q)<| .g .p .q) rfl J);subst this;exact ew c.1 e
 ·intro h;exact ew j (mQ.mpr ⟨G.off r,rfl,g4 h,k⟩)
theorem Qw (G:au) (x:eN G) (v:Nat->Option Nat):∀r,0<r->r<G.R->tV G (v (G.t+1)) (v (G.t+2)) (G.left r)=v (G.left r):=λ r J a=>by
 unfold tV;rcases (x.5 r J a).1 with h | h
 ·rw [h,if_pos rfl]
 ·rw [h,if_neg (by exact m7 (ct (.g (.s (.s .p)) (.a .p (.k 2))) rfl))]
theorem aeA (x:eN G) (v:Nat->Option Nat) (Y:Nat):fa G (tV G (v (G.t+1)) (v (G.t+2))) Y=fa G v Y:=
 Qv tW λ i m=>by
  rw [pf];exact ⟨λ z=>z.elim λ r z=>⟨r,z.1,z.2.1,z.2.2.1,(Qw G x v r z.1 z.2.1).symm.trans z.2.2.2.1,z.2.2.2.2⟩,λ z=>z.elim λ r z=>⟨r,z.1,z.2.1,z.2.2.1,(Qw G x v r z.1 z.2.1).trans z.2.2.2.1,z.2.2.2.2⟩⟩
end
section
variable {G:au}
def sj (G:au) (K:aS):Prop:=∃s∈opts,∃a∈opts,∃Y∈kL G,K=fa G (tV G s a) Y
noncomputable def lz (G:au) (K:aS):aS:=if h:∃es,c1 G G.bN G.bR K es then aiB h else []
theorem Cv (O:G.Ok) (h:fQ G K):c1 G G.bN G.bR K (lz G K):=by
 have:=Cq O h;unfold lz;rw [dif_pos this];exact aiC this
inductive lA (G:au):aS->Prop
 | a:lA G G.dY
 | b:lA G (G.goto (lz G G.dY) (G.t+1))
 | c:lA G [(2,0)]
 | d {K:aS}:sj G K->lA G K
 | e {K es:aS} {X:Nat}:sj G K->c1 G G.bN G.bR K es->X∈kL G->lA G (G.goto es X)
theorem v5 {s a:Option Nat} (c:s∈opts) (d:a∈opts):∀A m,tV G s a A=some m->m∈g9:=λ A m h=>by
 have key:∀o∈opts,∀m,o=some m->m∈g9:=λ o b m h=>by
  subst h;unfold opts at b;rcases dZ.mp b with h | h
  ·cases h
  ·obtain ⟨n,f,e⟩:=bH.mp h;cases e;exact f
 unfold tV at h
 split at h
 ·exact key s c m h
 ·exact key a d m h
theorem Qx {o:Option Nat} (h:∀m,o=some m->m∈g9):o∈opts:=by
 unfold opts;cases o with
 | none=>exact .head _
 | some m=>exact .tail _ (bH.mpr ⟨m,h m rfl,rfl⟩)
theorem y3 (x:eN G) (a:∀A m,v A=some m->m∈g9) {Y:Nat} (b:Y∈kL G):sj G (fa G v Y):=
 ⟨_,Qx (a (G.t+1)),_,Qx (a (G.t+2)),Y,b,(aeA x v Y).symm⟩
theorem sj.ok (h:sj G K):fQ G K:=by
 obtain ⟨s,b,a,c,Y,_,rfl⟩:=h;exact Cs (v5 b c)
theorem jT:cm (fa G v Y) i↔dB λ r m=>0<r∧r<G.R∧(G.right r)[0]? =some Y∧v (G.left r)=some m∧i=G.off r+1:=by
 unfold cm;rw [<- ey,hh];exact ⟨λ z=>z.elim λ m h=>(pf.mp h).elim λ r h=>⟨r,m,h⟩,λ z=>z.elim λ r m h=>⟨m,pf.mpr ⟨r,h⟩⟩⟩
theorem Cw (b:∀A m,v A=some m->m∈g9) {Y:Nat}:KB G (fa G v Y):=by
 refine ⟨Cs b,λ r i c h=> ?_,λ k τ ⟨m,J,f⟩=> ?_⟩
 ·obtain ⟨s,m,a⟩:=jT.mp h;exact fR 0 (qO (.f (.k 0) .o<| .g .o (.k 0) (n:=0)) rfl ((sg (d:=0) (e:=1) c a.2.1 (dz _) (kd a.2.2.1) a.2.2.2.2).2))
 ·refine eo λ g=> ?_;obtain ⟨r,aD⟩:=Cr.mp J;refine g ?_;exact (Qr _ (b _ _ aD.2.2.2.1)).2 τ f
theorem sj.xf (h:sj G K):KB G K:=by
 obtain ⟨s,b,a,c,Y,_,rfl⟩:=h;exact Cw (v5 b c)
theorem tX (x:eN G):KB G G.dY:=by
 refine ⟨o4 x.1,λ r b c h=> ?_,λ k τ ⟨m,J,a⟩=> ?_⟩
 ·unfold cm au.dY ar at h;simp at h;exact iP _ (a9 (bE ((sg (d:=0) (e:=0) c x.1.4 (dz _) (dz _) (by simpa using h)).1)) b)
 ·unfold au.dY at J;simp at J;rw [J.2] at a;simp at a
theorem Qy (x:eN G) {es:aS} (b:KB G K) (c:c1 G G.bN G.bR K es) (X:Nat):KB G (G.goto es X):=by
 refine ⟨Gy c X,λ r l e h=> ?_,λ k τ h=> ?_⟩
 ·obtain ⟨j,a⟩:=(ju c).mp h;have d:=au.ll (d:=0) e (dz _);rw [sH,a.1,(au.qe (mY x.1 (pe b.1) a.2.1) a.2.2).2.2.2.1] at d;exact iP _ (a9 (bB (bE d) (dz _)) (gj _))
 ·refine eo λ f=> ?_;obtain ⟨i,g⟩:=(kb c).mp h;have d:=g.2.2;refine f ?_;rcases Qq x.1 b.1 d with h' | ⟨k,ao⟩
  ·exact x.Qt h'
  ·exact b.3 k τ ao
theorem eN.item (x:eN G) (a:i<G.N):dB λ r d=>r<G.R∧d<=2∧d<=(G.right r).length∧i=G.off r+d∧G.cC i=(G.right r)[d]? ∧G.own i=r∧G.dot i=d:=by
 obtain ⟨J,c⟩:=au.yq a;have b:=(au.jK a).1;refine ⟨G.own i,G.dot i,b,?_,J,c,rfl,rfl,rfl⟩;rcases z1 (G.own i) with e | e
 ·rw [e,x.4.2] at J;exact J
 ·exact bB J ((x.5 _ e b).2.1)
theorem tY {d:Nat} (a:r<G.R) (hd:d<=(G.right r).length):G.cC (G.off r+d)=(G.right r)[d]? :=by
 unfold au.cC;rw [au.kC a hd,au.ll a hd]
theorem eN.tZ (x:eN G) (o:∀A m,v A=some m->m∈g9) {es:aS} (c:c1 G G.bN G.bR (fa G v Y) es) {X:Nat}:i∈ar (G.goto es X)↔(dB λ r m=>0<r∧r<G.R∧(G.right r)[0]? =some X∧si G es (G.left r)=some m∧i=G.off r+1)∨(dB λ r m=>0<r∧r<G.R∧G.right r=[Y,X]∧v (G.left r)=some m∧i=G.off r+2):=by
 have b:=Cw (G:=G) o (Y:=Y);constructor
 ·intro h;refine eo λ p=> ?_;obtain ⟨j,aD⟩:=(ju c).mp h;have l:=aD.2.1;have k:=aD.2.2;refine p ?_;rcases x.reach b.1 l with q | ⟨r,e,a,rfl⟩
  ·obtain ⟨r,m,e,a,f,g,rfl⟩:=jT.mp q;right;rw [tY a (kd f)] at k;refine ⟨r,m,e,a,?_,g,aD.1⟩;have:=(x.5 r e a).2.1;exact TG this f k
  ·left;have n:=tY (d:=0) a (dz _);rw [sH] at n;rw [n] at k;obtain ⟨m,s⟩:=hh.mp (ey.mpr ((c.2 _).mpr l));exact ⟨r,m,e,a,k,by rw [x.Ct b c e a];exact s,aD.1⟩
 ·rintro (⟨r,m,e,a,f,g,rfl⟩ | ⟨r,m,e,a,f,g,rfl⟩)
  ·exact ey.mp (by rw [(x.y2 b c e a f).mpr g];rfl)
  ·refine (ju c).mpr ⟨G.off r+1,rfl,.base (jT.mpr ⟨r,m,e,a,by rw [f];rfl,g,rfl⟩),?_⟩
   rw [tY a (by rw [f];simp),f];rfl
theorem eN.Qz (x:eN G) {es:aS} (b:KB G K) (c:c1 G G.bN G.bR K es) {X:Nat} (h:∀i∈ar (G.goto es X),∃r,0<r∧r<G.R∧i=G.off r+1):G.goto es X=fa G (si G es) X:=by
 refine Qv (lr c.1 X) λ i m=> ?_;constructor
 ·intro k;have l:=ey.mp (by rw [k];rfl:(br (G.goto es X) i).isSome=true)
  obtain ⟨r,e,a,rfl⟩:=h i l;refine eo λ n=> ?_;obtain ⟨j,f⟩:=(ju c).mp l;refine n ?_;have:j=G.off r:=dg (bD (.f (.s .p) (.s .q)<| .g .q .p) rfl f.1) (bD (.e (.s .p) (.s .q)<| .g .p .q) rfl f.1);subst this;have g:=tY (d:=0) a (dz _);rw [sH,f.2.2] at g;exact ⟨r,e,a,g.symm,(x.y2 b c e a g.symm).mp k,rfl⟩
 ·rintro ⟨r,e,a,o,p,rfl⟩;exact (x.y2 b c e a o).mpr p
theorem Hk (h:∀X,G.cC i=some X->X<G.t):∀j,¬G.Child i j:=λ j z=>z.elim λ b r z=>iP _ (bx (h b z.1) z.2.1)
theorem eN.t4 (x:eN G) {X:Nat} (a:i<G.N) (b:0<G.own i) (h:G.cC i=some X):X∈kL G:=(x.sym b (au.jK a).1 (au.qe a h).2.2.2.2).1
theorem pg {d:Nat} (a:0<r) (b:r<G.R) (hd:d<=(G.right r).length):0<G.own (G.off r+d):=by rw [au.kC b hd];exact a
theorem aeB (x:eN G) {es:aS} (h:lA G K) (c:c1 G G.bN G.bR K es) {X:Nat} (bJ:X∈G.syms es):lA G (G.goto es X):=by
 have w:=x.Qu;obtain ⟨p,dO⟩:=yy.mp bJ;have o:=dO.2;have F:fg G (cm K) p.1:=(c.2 _).mp (bH.mpr ⟨p,dO.1,rfl⟩);cases h with
 | a=>
  by_cases e:X=G.t+1
  ·subst e;rw [Hj c (Cv x.1 (o4 x.1))];exact .b
  ·have key:∀j,fg G (cm G.dY) j->G.cC j=some X->∃r,0<r∧r<G.R∧j=G.off r:=λ j J q=>by
    rcases x.reach (o4 x.1) J with h | h
    ·unfold cm au.dY ar at h;simp [mX] at h;subst h;rw [w.1] at q;exact absurd (dA q).symm e
    ·exact h
   rw [x.Qz (tX x) c λ i H=>by
    obtain ⟨j,rfl,E,C⟩:=(ju c).mp H;obtain ⟨r,g,f,rfl⟩:=key j E C;exact ⟨r,g,f,rfl⟩]
   refine .d (y3 x (λ A m h=>x.Cu (tX x) c h) ?_);obtain ⟨r,aD⟩:=key _ F o;exact x.t4 (by rw [aD.2.2];exact au.tD aD.2.1) (by rw [aD.2.2];exact pg (d:=0) aD.1 aD.2.1 (dz _)) o
 | b=>
  have l:=Cv x.1 (o4 x.1);have y:=Qy x (tX x) l (G.t+1);have N:∀i,cm (G.goto (lz G G.dY) (G.t+1)) i↔i=1∨cm (fa G (si G (lz G G.dY)) (G.t+1)) i:=λ i=>by
   unfold cm;rw [ju l];constructor
   ·rintro ⟨j,rfl,E,C⟩;rcases x.reach (o4 x.1) E with h | ⟨r,g,f,rfl⟩
    ·unfold cm au.dY ar at h;simp [mX] at h;subst h;exact .inl rfl
    ·right;have I:=tY (d:=0) f (dz _);rw [sH,C] at I;obtain ⟨m,hm⟩:=hh.mp (ey.mpr ((l.2 _).mpr E));exact ey.mp (by rw [pf.mpr ⟨r,g,f,I.symm,by rw [x.Ct (tX x) l g f];exact hm,rfl⟩];rfl)
   ·rintro (rfl | h)
    ·exact ⟨0,rfl,.base (by simp [cm,au.dY,ar,mX]),w.1⟩
    ·obtain ⟨r,m,g,f,k,u,rfl⟩:=jT.mp h;rw [x.Ct (tX x) l g f] at u;have I:=tY (d:=0) f (dz _);rw [sH,k] at I;exact ⟨G.off r,rfl,(l.2 _).mp (ey.mp (by rw [u];rfl)),I⟩
  by_cases e:X=0
  ·subst e;have:G.goto es 0=[(2,0)]:=by
    have only:∀j,fg G (cm (G.goto (lz G G.dY) (G.t+1))) j->G.cC j=some 0->j=1:=λ j J q=>by
     have Q:=mY x.1 (pe y.1) J;rcases z1 (G.own j) with O | O
     ·obtain ⟨aY,R⟩:=au.yq Q;rw [O,mX] at R;unfold au.cC at q;rw [O,x.4.2] at q;cases hd:G.dot j with
      | zero=>rw [hd] at q;simp at q
      | succ n=>cases n with
       | succ n=>rw [hd] at q;simp at q
       | zero=>exact dg (bD (.e .p (.a (.k 0) .q)<| .e .q .o<| .g .p .o) rfl R hd) (bD (.f .p (.a (.k 0) .q)<| .f .q .o<| .g .o .p) rfl R hd)
     ·exact absurd rfl ((x.sym O (au.jK Q).1 (au.qe Q q).2.2.2.2).2)
    have aeC:∀τ,¬cE (G.goto (lz G G.dY) (G.t+1)) 1 τ:=λ τ h=>by
     refine eo λ L=> ?_;obtain ⟨i,bI⟩:=(kb l).mp h;have aM:=bI.2.2;refine L ?_;have:i=0:=dg (ct (.f .o (.s .p)<| .g .p (.k 0)) rfl bI.1) (ct (.g (.k 0) .p) rfl);subst this;generalize hz:0=z at aM;cases aM with
     | base _ b=>subst hz;obtain ⟨m,cM,da⟩:=b;simp [au.dY] at cM;rw [cM.2] at da;simp at da
     | gP a b _=>
      subst hz;obtain ⟨r,v⟩:=x.child (mY x.1 (pe (o4 x.1)) a) b;exact iP _ (bx v.1 (bE ((sg (d:=0) (e:=0) x.1.4 v.2.1 (dz _) (dz _) (by rw [mX];simpa using v.2.2)).1).symm))
     | prop a b _=>
      subst hz;obtain ⟨r,S⟩:=x.child (mY x.1 (pe (o4 x.1)) (tT a)) b;exact iP _ (bx S.1 (bE ((sg (d:=0) (e:=0) x.1.4 S.2.1 (dz _) (dz _) (by rw [mX];simpa using S.2.2)).1).symm))
    refine y0 (lr c.1 0) (by simp [ar]) (λ i=> ?_) λ i τ=> ?_
    ·rw [ju c];simp only [ar,fe,kU,b3];exact ⟨λ z=>z.elim λ j z=>(by rw [z.1,only j z.2.1 z.2.2]),λ h=>⟨1,h,.base ((N 1).mpr (.inl rfl)),w.2.1⟩⟩
    ·rw [kb c];constructor
     ·rintro ⟨j,rfl,E,C⟩;have:=only j (tT C) E;subst this;generalize hz:1=z at C;have QA:∀r,0<r->r<G.R->1≠G.off r:=λ r g f h=>by
       have az:(G.right 0).length=2:=by rw [x.4.2];rfl
       exact iP _ (bx g (bE ((sg (d:=1) (e:=0) x.1.4 f (ct (.f .p (.k 2)<| .g .o .p) rfl az) (dz _) (by rw [mX];exact dg (ct (.e .o .p<| .g .o (.a .p (.k 0))) rfl h) (ct (.f .o .p<| .g (.a .p (.k 0)) .o) rfl h))).1).symm))
      cases C with
      | base _ b=>subst hz;exact absurd b (aeC τ)
      | gP a b _=>
       subst hz;obtain ⟨r,T⟩:=x.child (mY x.1 (pe y.1) a) b;exact absurd T.2.2 (QA r T.1 T.2.1)
      | prop a b _=>
       subst hz;obtain ⟨r,aD⟩:=x.child (mY x.1 (pe y.1) (tT a)) b;exact absurd aD.2.2 (QA r aD.1 aD.2.1)
     ·rintro ⟨m,J,q⟩;simp at J;rw [J.2] at q;simp at q
   rw [this];exact .c
  ·have B:=y3 x (λ A m h=>x.Cu (tX x) l (A:=A) (m:=m) h) (Y:=G.t+1) (by simp [kL])
   obtain ⟨fs,M⟩:=Cq x.1 B.ok;rw [Qn c M (λ i h=>(N i).mpr (.inr h)) (λ i h=>by
    rcases (N i).mp h with rfl | h
    ·right;exact ⟨Hk λ Y eG=>by rw [w.2.1] at eG;cases eG;have:=x.3;exact bx (by decide) this,by rw [w.2.1];intro h;exact e (dA h).symm⟩
    ·exact .inl h) (λ i τ H=>by
     obtain ⟨r,m,g,f,k,u,rfl⟩:=jT.mp H;rw [tU B.ok.nodup,tU y.1.nodup,(x.y2 (tX x) l g f k).mpr u,pf.mpr ⟨r,g,f,k,u,rfl⟩])]
   refine .e B M ?_;rcases x.reach y.1 F with h | ⟨r,g,f,t⟩
   ·rcases (N _).mp h with h | h
    ·rw [h,w.2.1] at o;exact absurd (dA o).symm e
    ·refine eo λ L=> ?_;obtain ⟨r,m,D⟩:=jT.mp h;refine L ?_;exact x.t4 (by rw [D.2.2.2.2];exact au.oW D.2.1 (kd D.2.2.1)) (by rw [D.2.2.2.2];exact pg D.1 D.2.1 (kd D.2.2.1)) o
   ·exact x.t4 (by rw [t];exact au.tD f) (by rw [t];exact pg (d:=0) g f (dz _)) o
 | c=>
  exfalso;have:∀j,fg G (cm [(2,0)]) j->j=2:=λ j h=>by
   induction h with
   | base h=>simpa [cm,ar] using h
   | step _ b ih=>subst ih;exact absurd b (Hk (λ X h=>by rw [w.2.2.1] at h;cases h) _)
  rw [this _ F,w.2.2.1] at o;cases o
 | d B=>
  refine .e B c ?_;obtain ⟨s,U,a,V,Y,_,rfl⟩:=B;rcases x.reach (Cs (v5 U V)) F with h | ⟨r,g,f,t⟩
  ·obtain ⟨r,m,v⟩:=jT.mp h;exact x.t4 (by rw [v.2.2.2.2];exact au.oW v.2.1 (kd v.2.2.1)) (by rw [v.2.2.2.2];exact pg v.1 v.2.1 (kd v.2.2.1)) o
  ·exact x.t4 (by rw [t];exact au.tD f) (by rw [t];exact pg (d:=0) g f (dz _)) o
 | @e jJ ajQ v0 B l Hd=>
  obtain ⟨s,U,a,V,Y,_,rfl⟩:=B;have P:=v5 (G:=G) U V;have W:=Cw (G:=G) P (Y:=Y);have y:=Qy x W l v0;have aF:=λ A m h=>x.Cu W l (A:=A) (m:=m) h;have Z:=y3 x aF Hd;obtain ⟨fs,M⟩:=Cq x.1 Z.ok;have done:∀{r},0<r->r<G.R->G.right r=[Y,v0]->G.cC (G.off r+2)=none:=λ {r} g f k=>by
   rw [tY f (by rw [k];simp),k];rfl
  rw [Qn c M (λ i h=>by
   refine eo λ L=> ?_;obtain ⟨r,m,h⟩:=jT.mp h;refine L ?_;exact (x.tZ P l).mpr (.inl ⟨r,m,h⟩)) (λ i h=>by
   rcases (x.tZ P l).mp h with ⟨r,m,h⟩ | ⟨r,m,g,f,k,u,rfl⟩
   ·exact .inl (jT.mpr ⟨r,m,h⟩)
   ·right;rw [done g f k];exact ⟨Hk λ X h=>(by rw [done g f k] at h;cases h),by simp⟩) (λ i τ H=>by
    obtain ⟨r,m,g,f,k,u,rfl⟩:=jT.mp H;rw [tU Z.ok.nodup,tU y.1.nodup,(x.y2 W l g f k).mpr u,pf.mpr ⟨r,g,f,k,u,rfl⟩])]
  refine .e Z M ?_;rcases x.reach y.1 F with h | ⟨r,g,f,t⟩
  ·rcases (x.tZ P l).mp h with ⟨r,m,g,f,k,u,t⟩ | ⟨r,m,g,f,k,u,t⟩
   ·exact x.t4 (by rw [t];exact au.oW f (kd k)) (by rw [t];exact pg g f (kd k)) o
   ·rw [t,done g f k] at o;cases o
  ·exact x.t4 (by rw [t];exact au.tD f) (by rw [t];exact pg (d:=0) g f (dz _)) o
end
section
variable {G:au}
noncomputable def ph:Option Nat->Option Nat->Option Nat
 | none,b=>b
 | some m,none=>some m
 | some m,some n=>some (m|||n)
theorem Hm {a b:Option Nat}:(∃m,ph a b=some m)↔(∃m,a=some m)∨∃m,b=some m:=by
 cases a<;>cases b<;>simp [ph]
theorem Hn {a b:Option Nat}:(∃m,ph a b=some m∧m.testBit τ=true)↔(∃m,a=some m∧m.testBit τ=true)∨∃m,b=some m∧m.testBit τ=true:=by
 cases a<;>cases b<;>simp [ph,hA]
theorem QB {a b:Option Nat} (c:∀m,a=some m->m∈g9) (d:∀m,b=some m->m∈g9):∀m,ph a b=some m->m∈g9:=by
 cases a with
 | none=>exact d
 | some m=>
  cases b with
  | none=>exact c
  | some n=>intro k ao;cases ao;exact (by decide:∀m∈g9,∀n∈g9,m|||n∈g9) m (c m rfl) n (d n rfl)
theorem Cz (K:aS):c3 K K=K:=Pz (kH K K) λ k=>by rw [r8 rfl,DJ]
theorem Ho:cE (fa G v Y) i τ↔∃r,0<r∧r<G.R∧(G.right r)[0]? =some Y∧(∃m,v (G.left r)=some m∧m.testBit τ=true)∧i=G.off r+1:=by
 rw [tU (tW.imp λ h=>e6 h)];constructor
 ·rintro ⟨m,J,f⟩;obtain ⟨r,aD⟩:=pf.mp J;exact ⟨r,aD.1,aD.2.1,aD.2.2.1,⟨m,aD.2.2.2.1,f⟩,aD.2.2.2.2⟩
 ·rintro ⟨r,a,b,c,⟨m,d,f⟩,e⟩;exact ⟨m,pf.mpr ⟨r,a,b,c,d,e⟩,f⟩
theorem QC {v w:Nat->Option Nat}:cm (fa G (λ A=>ph (v A) (w A)) Y) i↔cm (fa G v Y) i∨cm (fa G w Y) i:=by
 rw [jT,jT,jT];constructor
 ·rintro ⟨r,m,a,b,c,d,e⟩;exact (Hm.mp ⟨m,d⟩).imp (λ z=>z.elim λ m d=>⟨r,m,a,b,c,d,e⟩) λ z=>z.elim λ m d=>⟨r,m,a,b,c,d,e⟩
 ·rintro (⟨r,m,a,b,c,d,e⟩ | ⟨r,m,a,b,c,d,e⟩)
  ·obtain ⟨n,f⟩:=Hm.mpr (.inl ⟨m,d⟩:_∨∃m,w (G.left r)=some m);exact ⟨r,n,a,b,c,f,e⟩
  ·obtain ⟨n,f⟩:=Hm.mpr (.inr ⟨m,d⟩:(∃m,v (G.left r)=some m)∨_);exact ⟨r,n,a,b,c,f,e⟩
theorem QD {w:Nat->Option Nat}:cE (fa G (λ A=>ph (v A) (w A)) Y) i τ↔cE (fa G v Y) i τ∨cE (fa G w Y) i τ:=by
 rw [Ho,Ho,Ho];constructor
 ·rintro ⟨r,a,b,c,d,e⟩;exact (Hn.mp d).imp (λ d=>⟨r,a,b,c,d,e⟩) λ d=>⟨r,a,b,c,d,e⟩
 ·rintro (⟨r,a,b,c,d,e⟩ | ⟨r,a,b,c,d,e⟩)
  ·exact ⟨r,a,b,c,Hn.mpr (.inl d),e⟩
  ·exact ⟨r,a,b,c,Hn.mpr (.inr d),e⟩
inductive m2 (G:au):aS->Prop
 | d {v:Nat->Option Nat} {Y:Nat}:(∀A m,v A=some m->m∈g9)->Y∈kL G->m2 G (fa G v Y)
 | e {v:Nat->Option Nat} {Y:Nat} {es:aS} {X:Nat}:(∀A m,v A=some m->m∈g9)->Y∈kL G->c1 G G.bN G.bR (fa G v Y) es->X∈kL G->m2 G (G.goto es X)
theorem m2.aeD (x:eN G) (h:m2 G K):lA G K:=by
 cases h with
 | d a b=>exact .d (y3 x a b)
 | e a b c f=>exact .e (y3 x a b) c f
theorem y6 (h:lA G K):K=G.dY∨K=G.goto (lz G G.dY) (G.t+1)∨K=[(2,0)]∨m2 G K:=by
 cases h with
 | a=>exact .inl rfl
 | b=>exact .inr (.inl rfl)
 | c=>exact .inr (.inr (.inl rfl))
 | d f=>obtain ⟨s,g,a,i,Y,j,rfl⟩:=f;exact .inr (.inr (.inr (.d (v5 g i) j)))
 | e f c k=>obtain ⟨s,g,a,i,Y,j,rfl⟩:=f;exact .inr (.inr (.inr (.e (v5 g i) j c k)))
theorem m2.own (x:eN G) (h:m2 G K):∀i∈ar K,0<G.own i:=λ i g=>by
 cases h with
 | d j l=>
  obtain ⟨r,m,a,b,f,k,rfl⟩:=jT.mp g;exact pg a b (kd f)
 | e j l c n=>
  rcases (x.tZ j c).mp g with ⟨r,m,a,b,f,k,rfl⟩ | ⟨r,m,a,b,f,k,rfl⟩
  ·exact pg a b (kd f)
  ·exact pg a b (by rw [f];simp)
theorem m2.QE (x:eN G) (h:m2 G K) (n:∀i∈ar K,G.dot i≠2):∃v:Nat->Option Nat,(∀A m,v A=some m->m∈g9)∧∃X∈kL G,K=fa G v X:=by
 cases h with
 | d a g=>exact ⟨_,a,_,g,rfl⟩
 | @e v Y es X a g c o=>
  have b:=Cw (G:=G) a (Y:=Y);refine ⟨_,λ A m h=>x.Cu b c h,_,o,x.Qz b c λ i j=> ?_⟩;rcases (x.tZ a c).mp j with ⟨r,m,k,f,l,p,rfl⟩ | ⟨r,m,k,f,l,p,rfl⟩
  ·exact ⟨r,k,f,rfl⟩
  ·exact absurd (au.ll f (by rw [l];simp)) (n _ j)
theorem aeE (x:eN G) (cw:m2 G K) (D:m2 G L) (h:ar K=ar L):m2 G (c3 K L):=by
 by_cases E:∃i∈ar K,G.dot i=2
 ·obtain ⟨i,F⟩:=E;have a:=F.1;have hd:=F.2;have g:=a;rw [h] at g;have no:∀{v:Nat->Option Nat} {Y:Nat},i∉ar (fa G v Y):=λ {v Y} a=>by
   obtain ⟨r,m,j,f,b,k,rfl⟩:=jT.mp a;rw [au.ll f (kd b)] at hd;cases hd
  cases cw with
  | d=>exact absurd a no
  | @e v Y es X l N c o=>
   cases D with
   | d=>exact absurd g no
   | @e w Z fs q hw T H O=>
    have P:∃r,r<G.R∧G.right r=[Y,X]∧i=G.off r+2:=by
     rcases (x.tZ l c).mp a with ⟨r,m,j,f,b,k,e⟩ | ⟨r,m,j,f,b,k,e⟩
     ·rw [e,au.ll f (kd b)] at hd;cases hd
     ·exact ⟨r,f,b,e⟩
    have Q:∃r,r<G.R∧G.right r=[Z,q]∧i=G.off r+2:=by
     rcases (x.tZ hw H).mp g with ⟨r,m,j,f,b,k,e⟩ | ⟨r,m,j,f,b,k,e⟩
     ·rw [e,au.ll f (kd b)] at hd;cases hd
     ·exact ⟨r,f,b,e⟩
    obtain ⟨r,p⟩:=P;obtain ⟨s,t⟩:=Q;have u:=t.2.1;have:=(sg p.1 t.1 (by rw [p.2.1];simp) (by rw [u];simp) (p.2.2.symm.trans t.2.2)).1
    subst this;rw [p.2.1] at u;injection u with R y;injection y with y _;subst R;subst y;have I:∀A m,ph (v A) (w A)=some m->m∈g9:=λ A=>QB (l A) (hw A);obtain ⟨U,J⟩:=Cq x.1 (Cs I (Y:=Y));rw [aep c H J (λ i=>QC) (λ i τ=>QD) h];exact .e I N J o
 ·have M:∀i∈ar K,G.dot i≠2:=λ i a e=>E ⟨i,a,e⟩;obtain ⟨v,l,X,o,rfl⟩:=cw.QE x M;obtain ⟨w,hw,q,O,rfl⟩:=D.QE x λ i a=>M i (by rw [h];exact a)
  by_cases z:ar (fa G v X)=[]
  ·have:fa G v X=[]:=by unfold ar at z;exact Jc.mp z
   have S:c3 (fa G v X) (fa G w q)=fa G v X:=by rw [this];rfl
   rw [S];exact .d l o
  ·obtain ⟨i,a⟩:=List.exists_mem_of_ne_nil _ z;obtain ⟨r,m,j,f,b,k,rfl⟩:=jT.mp a;have g:=a;rw [h] at g;obtain ⟨s,n,B⟩:=jT.mp g;have C:=B.2.2.1;have:=(sg f B.2.1 (kd b) (kd C) B.2.2.2.2).1;subst this;rw [b] at C;cases C;have:c3 (fa G v X) (fa G w X)=fa G (λ A=>ph (v A) (w A)) X:=by
    refine y0 (by rw [kH];exact tW) tW (λ i=> ?_) λ i τ=> ?_
    ·rw [kH];refine Iff.trans ?_ (QC (v:=v) (w:=w)).symm;exact ⟨.inl,λ h'=>h'.elim id λ h'=>by rw [h];exact h'⟩
    ·rw [yZ h,QD]
   rw [this];exact .d (λ A=>QB (l A) (hw A):∀A m,ph (v A) (w A)=some m->m∈g9) o
theorem aeH (x:eN G) (cw:lA G K) (a:lA G L) (h:ar K=ar L):lA G (c3 K L):=by
 obtain ⟨bo,a1,a2,g,b,c,d,i,k,l⟩:=x.Qu;have f:=Cv x.1 (o4 x.1);have k0:ar G.dY=[0]:=by simp [ar,au.dY,mX]
 have k1:1∈ar (G.goto (lz G G.dY) (G.t+1)):=(ju f).mpr ⟨0,rfl,.base (by rw [cm,k0];simp),bo⟩
 have m:0∉ar (G.goto (lz G G.dY) (G.t+1)):=λ h=>by obtain ⟨j,e,_⟩:=(ju f).mp h;exact fR 0 (ct (.f (.k 0) (.s .p)<| .g .o (.k 0) (n:=0)) rfl e)
 have k2:ar [(2,0)]=[2]:=rfl;rcases y6 cw with rfl | rfl | rfl | cw
 ·rcases y6 a with rfl | rfl | rfl | a
  ·rw [Cz];exact .a
  ·rw [<- h,k0] at k1;simp at k1
  ·rw [k0,k2] at h;cases h
  ·exact (fR 0 (ct (.e .p (.k 0)<| .l (.s (.k 0)) .p<| .g .o (.k 0) (n:=0)) rfl b (a.own x 0 (by rw [<- h,k0];simp)))).elim
 ·rcases y6 a with rfl | rfl | rfl | a
  ·rw [h,k0] at k1;simp at k1
  ·rw [Cz];exact .b
  ·rw [h,k2] at k1;simp at k1
  ·exact (fR 0 (ct (.e .p (.k 0)<| .l (.s (.k 0)) .p<| .g .o (.k 0) (n:=0)) rfl c (a.own x 1 (by rw [<- h];exact k1)))).elim
 ·rcases y6 a with rfl | rfl | rfl | a
  ·rw [k0,k2] at h;cases h
  ·rw [<- h,k2] at k1;simp at k1
  ·rw [Cz];exact .c
  ·exact (fR 0 (ct (.e .p (.k 0)<| .l (.s (.k 0)) .p<| .g .o (.k 0) (n:=0)) rfl d (a.own x 2 (by rw [<- h,k2];simp)))).elim
 ·rcases y6 a with rfl | rfl | rfl | a
  ·exact (fR 0 (ct (.e .p (.k 0)<| .l (.s (.k 0)) .p<| .g .o (.k 0) (n:=0)) rfl b (cw.own x 0 (by rw [h,k0];simp)))).elim
  ·exact (fR 0 (ct (.e .p (.k 0)<| .l (.s (.k 0)) .p<| .g .o (.k 0) (n:=0)) rfl c (cw.own x 1 (by rw [h];exact k1)))).elim
  ·exact (fR 0 (ct (.e .p (.k 0)<| .l (.s (.k 0)) .p<| .g .o (.k 0) (n:=0)) rfl d (cw.own x 2 (by rw [h,k2];simp)))).elim
  ·exact (aeE x cw a h).aeD x
noncomputable def v7 (G:au):List aS:=opts.flatMap λ s=>opts.flatMap λ a=>(kL G).map λ Y=>fa G (tV G s a) Y
noncomputable def all2 (G:au):List aS:=[G.dY,G.goto (lz G G.dY) (G.t+1),[(2,0)]]++(v7 G++(v7 G).flatMap λ K=>(kL G).map λ X=>G.goto (lz G K) X)
theorem Hq {α β:Type} {l:List α} {f:α->List β} {n:Nat} (h:∀a∈l,(f a).length=n):(l.flatMap f).length=l.length*n:=by
 induction l with
 | nil=>simp
 | cons a l ih=>
  rw [zZ,cI,h a (.head _),ih λ b c=>h b (.tail _ c),f7,zX];exact dg (bD (.g (.a .p .q) (.a .q .p)) rfl) (bD (.g (.a .p .q) (.a .q .p)) rfl)
theorem QH:(v7 G).length=324:=by
 unfold v7;rw [Hq (n:=36)]
 ·rfl
 ·intro s _;rw [Hq (n:=4)]
  ·rfl
  ·intro a _;simp [kL]
theorem aeI:(all2 G).length=1623:=by
 unfold all2;rw [cI,cI,QH,Hq (n:=4) (λ K _=>by simp [kL]),QH];rfl
theorem QI (h:sj G K):K∈v7 G:=by
 obtain ⟨s,b,a,c,Y,d,rfl⟩:=h;unfold v7;rw [nf];refine ⟨s,b,?_⟩;rw [nf];exact ⟨a,c,bH.mpr ⟨Y,d,rfl⟩⟩
theorem aeJ (x:eN G) (h:lA G K):K∈all2 G:=by
 unfold all2;rw [c6,c6];cases h with
 | a=>exact .inl (by simp)
 | b=>exact .inl (by simp)
 | c=>exact .inl (by simp)
 | d f=>exact .inr (.inl (QI f))
 | e f c g=>
  refine .inr (.inr ?_);rw [nf];refine ⟨_,QI f,bH.mpr ⟨_,g,?_⟩⟩;exact Hj (Cv x.1 f.ok) c _
theorem aeK (x:eN G):sf G (lA G) where
 start:= .a
 goto K es h c X a:=aeB x h c a
 bound l b h:=by
  have:=Qi b λ K cw=>aeJ x (h K cw);rw [aeI] at this;exact a9 this (by decide)
 c3 K L cw d _ _ h:=aeH x cw d h
end
end Mine
end
section
open PySem PySem.W PyProof.Rows PySem.Calls
namespace Mine
variable {nul:cO} {aT:aw} {K es:aS}
section
variable {G:au}
noncomputable def au.y7 (G:au) (i:Nat):aw:=match G.cC i with | some b=>if G.t<=b then (G.nU b).map G.off else [] | none=>[]
noncomputable def CA (es:aS) (j v:Nat):aS:=d5 es j ((br es j).getD 0|||v)
noncomputable def au.v8 (G:au) (nul:cO) (aT:aw) (p:Nat×Nat):Nat:=(G.hX nul aT p.1).1|||if (G.hX nul aT p.1).2 then p.2 else 0
noncomputable def au.y8 (G:au) (nul:cO) (aT:aw) (es:aS):aS:=es.foldl (λ a p=>(G.y7 p.1).foldl (λ a j=>CA a j (G.v8 nul aT p)) a) es
noncomputable def au.n6 (G:au) (nul:cO) (aT:aw):Nat->aS->aS
 | 0,es=>es
 | n+1,es=>let fs:=G.y8 nul aT es;if fs=es then es else G.n6 nul aT n fs
theorem au.aeL {n:Nat}:G.n6 nul aT (n+1) es=if G.y8 nul aT es=es then es else G.n6 nul aT n (G.y8 nul aT es):=rfl
noncomputable def au.Hr (G:au) (nul:cO) (aT:aw) (K es:aS):Bool:=decide (ar K).Nodup&&es.all λ p=>decide (p.1<G.N)&&decide (p.2<4096)&&(G.y7 p.1).all λ j=>match br es j with | some m=>m|||G.v8 nul aT p==m | none=>false
noncomputable def au.qw (G:au) (es:aS) (X:Nat):aS:=(cg G.N).filterMap λ i=>if G.cC i=some X then (br es i).map λ m=>(i+1,m) else none
noncomputable def au.QJ (G:au) (es:aS):aw:=es.foldl (λ a p=>match G.cC p.1 with | some X=>if X∈a then a else X::a | none=>a) []
noncomputable def au.y9 (G:au) (nul:cO) (aT:aw) (K:aS):Option (List aS):=let es:=G.n6 nul aT 12 K;if G.Hr nul aT K es then some ((G.QJ es).map (G.qw es)) else none
noncomputable def au.sk (G:au) (nul:cO) (aT:aw):Nat->List aS->List aS->Option (List aS)
 | _,[],done=>some done
 | 0,_::_,_=>none
 | n+1,K::a,done=>if K∈done then G.sk nul aT n a done else
  match G.y9 nul aT K with
  | none=>none
  | some S=>G.sk nul aT n (S++((done.filter λ L=>ar L==ar K).map (c3 K)++a)) (K::done)
theorem au.aeM {n:Nat} {a done:List aS}:G.sk nul aT (n+1) (K::a) done=if K∈done then G.sk nul aT n a done else
  match G.y9 nul aT K with
  | none=>none
  | some S=>G.sk nul aT n (S++((done.filter λ L=>ar L==ar K).map (c3 K)++a)) (K::done):=rfl
theorem QK {i j:Nat}:j∈G.y7 i↔G.Child i j:=by
 unfold au.y7 au.Child;cases h:G.cC i with
 | none=>exact ⟨λ h=>(by cases h),λ h=>h.elim λ _ _ h=>by cases h.1⟩
 | some b=>
  simp only;constructor
  ·intro a
   split at a
   ·obtain ⟨r,d,e⟩:=bH.mp a;exact ⟨b,r,rfl,by assumption,d,e.symm⟩
   ·cases a
  ·rintro ⟨c,r,e,J,f,rfl⟩;cases e;rw [if_pos J];exact bH.mpr ⟨r,f,rfl⟩
noncomputable abbrev mc (G:au) (nul:cO) (aT:aw) (K a:aS):Prop:=iV ((ar a).Nodup) (∀i∈ar a,fg G (cm K) i) (∀i m,br a i=some m->∀τ,m.testBit τ=true->d9 G nul aT (cm K) (cE K) τ i) (∀i m,(i,m)∈K->∃b,br a i=some b∧∀τ,m.testBit τ=true->b.testBit τ=true)
theorem mc.aeN {b:aS} (x:mc G nul aT K b) {j v:Nat} (J:fg G (cm K) j) (f:∀τ,v.testBit τ=true->d9 G nul aT (cm K) (cE K) τ j):mc G nul aT K (CA b j v):=by
 refine ⟨BM x.1 _ _,λ i c=> ?_,λ i m h τ a=> ?_,λ i m h=> ?_⟩
 ·rcases yt.mp c with rfl | c
  ·exact J
  ·exact x.2 i c
 ·unfold CA at h;rw [oX] at h
  split at h
  ·rename_i e;subst e;cases h;rw [hA,wV] at a;rcases a with a | a
   ·cases d:br b i with
    | none=>rw [d] at a;simp at a
    | some n=>rw [d] at a;exact x.3 i n d τ a
   ·exact f τ a
  ·exact x.3 i m h τ a
 ·obtain ⟨g,aD⟩:=x.4 i m h;unfold CA;rw [oX]
  split
  ·rename_i e;subst e;refine ⟨_,rfl,λ τ a=> ?_⟩;rw [aD.1,Jh,hA,aD.2 τ a,Jb]
  ·exact ⟨g,aD.1,aD.2⟩
theorem QL {α β:Type} {f:β->α->β} (I:β->Prop):∀(l:List α) (b:β),I b->(∀a∈l,∀b,I b->I (f b a))->I (l.foldl f b):=by
 intro l
 induction l with
 | nil=>
  exact λ _ h _=>h
 | cons a l ih=>
  exact λ b h d=>ih (f b a) (d a (.head _) b h) λ c aI=>d c (.tail _ aI)
theorem mc.pass {d:aS} (x:mc G nul aT K d):mc G nul aT K (G.y8 nul aT d):=by
 unfold au.y8;refine QL (mc G nul aT K) _ _ x λ p e b g=> ?_;refine QL (mc G nul aT K) _ _ g λ j i c aI=> ?_;have a:=QK.mp i;have f:=x.2 p.1 (bH.mpr ⟨p,e,rfl⟩);refine aI.aeN (.step f a) λ τ h=> ?_;unfold au.v8 at h;rw [hA,wV] at h;rcases h with h | h
 ·exact .gP f a h
 ·split at h
  ·rename_i k;exact .prop (x.3 p.1 p.2 (ew x.1 e) τ h) a k
  ·simp at h
theorem mc.lz:∀(n:Nat) (a:aS),mc G nul aT K a->mc G nul aT K (G.n6 nul aT n a):=by
 intro n
 induction n with
 | zero=>
  exact λ _ x=>x
 | succ n ih=>
  intro a x;rw [au.aeL]
  split
  ·exact x
  ·exact ih _ x.pass
theorem aeO (h:G.Hr nul aT K (G.n6 nul aT 12 K)=true):c1 G nul aT K (G.n6 nul aT 12 K):=by
 unfold au.Hr at h;rw [Dr,kT] at h;obtain ⟨J,g⟩:=h;have c:=of_decide_eq_true J;have x:mc G nul aT K (G.n6 nul aT 12 K):=mc.lz 12 K ⟨c,λ i k=> .base k,λ i m e τ b8=> .base (bH.mpr ⟨_,g4 e,rfl⟩) ⟨m,g4 e,b8⟩,λ i m h=>⟨m,ew c h,λ _ h=>h⟩⟩;have f:∀i m,br (G.n6 nul aT 12 K) i=some m->(i<G.N∧m<4096)∧∀j∈G.y7 i,∃n,br (G.n6 nul aT 12 K) j=some n∧n|||G.v8 nul aT (i,m)=n:=λ i m a=>by
  have:=g (i,m) (g4 a);rw [Dr,Dr,kT] at this;refine ⟨⟨of_decide_eq_true this.1.1,of_decide_eq_true this.1.2⟩,λ j d=> ?_⟩;have b:=this.2 j d;cases e:br (G.n6 nul aT 12 K) j with
  | none=>rw [e] at b;cases b
  | some n=>rw [e] at b;exact ⟨n,rfl,by simpa using b⟩
 refine Ob c x.1 (λ i m a=>(f i m a).1) x.4 x.2 x.3 λ i m a j d=> ?_;obtain ⟨n,aD⟩:=(f i m a).2 j (QK.mpr d);refine ⟨n,aD.1,λ τ b8=> ?_,λ l τ b8=> ?_⟩
 ·rw [<- aD.2,hA,au.v8,hA,b8];simp
 ·rw [<- aD.2,hA,au.v8,hA,if_pos l,b8];simp
theorem aeP (x:c1 G G.bN G.bR K es) (X:Nat):G.goto es X=G.qw es X:=by
 have l:∀p:Nat×Nat,p∈G.qw es X↔∃i,i<G.N∧G.cC i=some X∧br es i=some p.2∧p.1=i+1:=λ p=>by
  unfold au.qw;rw [Dl];constructor
  ·rintro ⟨i,n,h⟩
   split at h
   ·obtain ⟨m,J,rfl⟩:=iv.mp h;exact ⟨i,fK.mp n,by assumption,J,rfl⟩
   ·cases h
  ·rintro ⟨i,J,o,r,s⟩;exact ⟨i,fK.mpr J,by rw [if_pos o,r,DE,<- s]⟩
 have j:(ar (G.qw es X)).Pairwise (·< ·):=by
  unfold ar au.qw;rw [aiy];refine aiz _ (R:=(·< ·)) (λ a b t c aI d hd=> ?_) aiA;obtain ⟨p,f,rfl⟩:=iv.mp aI;obtain ⟨q,g,rfl⟩:=iv.mp hd;have u:p.1=a+1:=by
   split at f
   ·obtain ⟨m,_,e⟩:=iv.mp f;rw [<- e]
   ·cases f
  have v:q.1=b+1:=by
   split at g
   ·obtain ⟨m,_,e⟩:=iv.mp g;rw [<- e]
   ·cases g
  exact eZ (.l (.s .p) .q<| .e .r (.s .p)<| .f .t (.s .q)<| .g (.s .r) .t) rfl t u v
 have g1:=lr x.1 X (G:=G);have k:∀p:Nat×Nat,p∈G.goto es X↔p∈G.qw es X:=λ p=>by
  rw [mQ,l];exact ⟨λ z=>z.elim λ i z=>⟨i,(x.4 i _ (ew x.1 z.2.1)).1,z.2.2,ew x.1 z.2.1,z.1⟩,λ z=>z.elim λ i z=>⟨i,z.2.2.2,g4 z.2.2.1,z.2.1⟩⟩
 refine Hi g1 j λ i=> ?_;cases e:br (G.goto es X) i with
 | some m=>exact (ew (j.imp λ h=>e6 h:(ar (G.qw es X)).Nodup) ((k _).mp (g4 e))).symm
 | none=>
  cases w:br (G.qw es X) i with
  | none=>rfl
  | some m=>rw [ew (g1.imp λ h=>e6 h:(ar (G.goto es X)).Nodup) ((k _).mpr (g4 w))] at e;cases e
theorem aeQ {X:Nat} (h:∃p∈es,G.cC p.1=some X):X∈G.QJ es:=by
 have key:∀(l:aS) (a:aw),(X∈a∨∃p∈l,G.cC p.1=some X)->X∈l.foldl (λ a p=>match G.cC p.1 with | some X=>if X∈a then a else X::a | none=>a) a:=by
  intro l
  induction l with
  | nil=>intro a h;exact h.elim id λ z=>z.elim λ p h=>hQ h.1
  | cons p l ih=>
   intro a h;rw [uz];refine ih _ ?_;rcases h with h | ⟨q,b,e⟩
   ·left
    split
    ·split
     ·exact h
     ·exact .tail _ h
    ·exact h
   ·rcases dZ.mp b with rfl | b
    ·left;rw [e];dsimp only
     split
     ·assumption
     ·exact .head _
    ·exact .inr ⟨q,b,e⟩
 exact key es [] (.inr h)
theorem aeR {S:List aS} (h:G.y9 G.bN G.bR K=some S) (c:c1 G G.bN G.bR K es) {X:Nat} (b:X∈G.syms es):G.goto es X∈S:=by
 unfold au.y9 at h;dsimp only at h
 split at h
 ·rename_i d;cases h;have a:=aeO d;rw [Hj c a,aeP a];refine bH.mpr ⟨X,aeQ ?_,rfl⟩;rw [<- Qb c a rfl] at b;exact yy.mp b
 ·cases h
theorem QM {L:aS} (h:ar K=ar L):c3 K L=c3 L K:=Pz (by rw [kH,kH,h]) λ k=>by rw [r8 h,r8 h.symm,uJ]
theorem aeS:∀(n:Nat) (g done:List aS) (L:List aS),G.sk G.bN G.bR n g done=some L->
  (∀K∈done,∀es,c1 G G.bN G.bR K es->∀X∈G.syms es,G.goto es X∈done∨G.goto es X∈g)->(∀K∈done,∀K'∈done,ar K=ar K'->c3 K K'∈done∨c3 K K'∈g)->
  (∀K,K∈done∨K∈g->K∈L)∧L.length<=done.length+n∧(∀K∈L,∀es,c1 G G.bN G.bR K es->∀X∈G.syms es,G.goto es X∈L)∧∀K∈L,∀K'∈L,ar K=ar K'->c3 K K'∈L:=by
 intro n
 induction n with
 | zero=>
  intro g done L h J l;cases g with
  | nil=>
   cases (show some done=some L from h);exact ⟨λ K h=>h.elim id λ h=>(by cases h),ct (.g .p (.a .p (.k 0))) rfl,λ K cw es c X k=>(J K cw es c X k).elim id λ h=>(by cases h),λ K cw K' i e=>(l K cw K' i e).elim id λ h=>by cases h⟩
  | cons=>exact no h
 | succ n ih=>
  intro g done L h J l;cases g with
  | nil=>
   cases (show some done=some L from h);exact ⟨λ K h=>h.elim id λ h=>(by cases h),fJ _ _,λ K cw es c X k=>(J K cw es c X k).elim id λ h=>(by cases h),λ K cw K' i e=>(l K cw K' i e).elim id λ h=>by cases h⟩
  | cons K g=>
   rw [au.aeM] at h
   by_cases m:K∈done
   ·rw [if_pos m] at h;have aD:=ih g done L h (λ K' i es c X k=>(J K' i es c X k).elim .inl λ h=>(dZ.mp h).elim (λ e=> .inl (e▸m)) .inr) (λ j k1 f k2 e=>(l j k1 f k2 e).elim .inl λ h=>(dZ.mp h).elim (λ e=> .inl (e▸m)) .inr);refine ⟨λ K' h=>aD.1 K' (h.elim .inl λ h=>(dZ.mp h).elim (λ e=> .inl (e▸m)) .inr),ci (.l .p (.a .q .r)<| .g .p (.a .q (.s .r))) rfl aD.2.1,aD.2.2.1,aD.2.2.2⟩
   ·rw [if_neg m] at h;cases o:G.y9 G.bN G.bR K with
    | none=>rw [o] at h;exact no h
    | some S=>
     rw [o] at h;dsimp only at h;have pre:∀{j f:aS},j∈done->f∈done->ar j=ar f->c3 j f∈K::done∨c3 j f∈S++((done.filter λ L=>ar L==ar K).map (c3 K)++g):=λ {j f} k1 k2 e=>by
      rcases l j k1 f k2 e with h | h
      ·exact .inl (.tail _ h)
      ·rcases dZ.mp h with h | h
       ·exact .inl (h▸.head _)
       ·exact .inr (ix _ (ix _ h))
     have new:∀{f:aS},f∈done->ar f=ar K->c3 K f∈S++((done.filter λ L=>ar L==ar K).map (c3 K)++g):=λ {f} k2 e=>
      ix _ (f9 _ (bH.mpr ⟨f,kS.mpr ⟨k2,by simpa using e⟩,rfl⟩))
     obtain ⟨a,b,c,d⟩:=ih _ (K::done) L h (λ K' i es c X k=>by
      rcases dZ.mp i with rfl | i
      ·exact .inr (f9 _ (aeR o c k))
      ·rcases J K' i es c X k with h | h
       ·exact .inl (.tail _ h)
       ·rcases dZ.mp h with h | h
        ·exact .inl (h▸.head _)
        ·exact .inr (ix _ (ix _ h))) λ j k1 f k2 e=>by
      rcases dZ.mp k1 with p | k3<;>rcases dZ.mp k2 with q | r
      ·subst p;subst q;rw [Cz];exact .inl (.head _)
      ·subst p;exact .inr (new r e.symm)
      ·subst q;rw [QM e];exact .inr (new k3 e)
      ·exact pre k3 r e
     refine ⟨λ K' h=> ?_,by simp at b;exact ci (.l .p (.a (.s .q) .r)<| .g .p (.a .q (.s .r))) rfl b,c,d⟩
     rcases h with h | h
     ·exact a K' (.inl (.tail _ h))
     ·rcases dZ.mp h with rfl | h
      ·exact a _ (.inl (.head _))
      ·exact a K' (.inr (ix _ (ix _ h)))
theorem CB (h:(G.sk G.bN G.bR 1000 [G.dY] []).isSome=true):∃df,sf G df:=by
 obtain ⟨L,f⟩:=hh.mp h;obtain ⟨a,b,c,d⟩:=aeS 1000 [G.dY] [] L f (λ K h=>(by cases h)) λ K h=>by cases h
 exact ⟨(· ∈L),{start:=a _ (.inr (.head _)),goto:=λ K es cw cl X g=>c K cw es cl X g,bound:=λ l i j=>(by
   simp at b;exact bD (.l .p .q<| .l .q (.k 1000)<| .g (.s .p) (.k 2000)) rfl (Qi i j) b),c3:=λ K iK cw f _ _ e=>d K cw iK f e}⟩
end
end Mine
end
section
namespace Mine
noncomputable def Hs:List (Nat×aw):=[(6,[7,0]),(7,[3,3]),(7,[4,8,4]),(7,[5,8,5]),(7,[4,9,5]),(7,[5,9,4]),(8,[3]),(9,[3])]
noncomputable def g1 (e:List (Nat×aw)):au:=⟨6,10,Hs++e⟩
noncomputable def CC (G:au):Bool:=(G.sk G.bN G.bR 1000 [G.dY] []).isSome
noncomputable def Ht:aw:=[3,4,5,8,9]
noncomputable def za:List aw:=[]::(Ht.map λ a=>[a])++Ht.flatMap λ a=>Ht.map λ b=>[a,b]
theorem aeT:CC (g1 [])=true:=by decide+kernel
theorem aeU:∀w∈za,CC (g1 [(7,w)])=true:=by decide+kernel
theorem aeV:∀w∈za,CC (g1 [(8,w)])=true:=by decide+kernel
theorem aeW:∀w∈za,CC (g1 [(9,w)])=true:=by decide+kernel
end Mine
end
section
open PySem PySem.W PyProof.Rows PySem.Calls
namespace Mine
variable {lv:ai} {i m n r:Nat} {B:ag} {L:SL} {A:du} {K b es fs:aS} {x:aW} {xs:aV} {e:Bool} {al l ls w:bZ} {a c cZ d e7 g:ak} {bs:gb} {p:aW×bZ} {K':dK} {o:c5} {W:a0} {E:ag->Prop} {aA:ck} {S:SVal} {cD df:aS->Prop} {aj co:b9} {bu:a8}
open Classical
section
variable {W:a0} {P:eg} {r:Nat} {E:ag->Prop} {H:ag} {Q:KE} {g:ak} {G:au}
theorem aeX (Z:Base W P) {k l c:ai} (q:∀a b aa,Ext H aa->H a=none->aa a=some (.inst .iy b)->b .number=some k->b .left=some l->b .right=some c->Q (.ref a) aa):dw W (r+2) .iy [k,l,c,lv] H Q E:=
 Z8 Z λ x d=>yo 8 d rfl<|fo 0 rfl rfl<|fo 0 rfl rfl<|fo 0 rfl rfl<|fo 0 rfl rfl<|fo 0 rfl rfl<|fo 0 rfl rfl<|fo 0 rfl rfl<|vG λ aa f=>⟨rfl,q x _ aa f.1 d (f.get 0 rfl) rfl rfl rfl⟩
theorem aeY:∀(rs:List (Nat×aw)) (k:Nat) (x:Nat×aw),j5 k (rs++[x])=j5 k rs++eQ (x.2.length+1) (k+rs.length):=by
 intro rs
 induction rs with
 | nil=>
  intro k x;simp [l2,qd]
 | cons y rs ih=>
  intro k x;rw [zW,l2,l2,ih (k+1) x,jy,f7]
  congr 2;congr 1;exact dg (bD (.g (.a (.s .p) .q) (.a .p (.s .q))) rfl) (bD (.g (.a .p (.s .q)) (.a (.s .p) .q)) rfl)
theorem aeZ:∀(rs:List (Nat×aw)) (j k:Nat) (x:Nat×aw),i4 k (rs++[x])=i4 k rs++[k+(j5 j rs).length]:=by
 intro rs
 induction rs with
 | nil=>
  intro j k x;simp [oV,rU,l2,qd]
 | cons y rs ih=>
  intro j k x;rw [zW,oV,oV,l2,ih (j+1) (k+(y.2.length+1)) x,zW,cI,mn]
  congr 3;exact dg (ci (.g (.a (.a .p (.s .q)) .r) (.a .p (.a (.s .q) .r))) rfl) (ci (.g (.a .p (.a (.s .q) .r)) (.a (.a .p (.s .q)) .r)) rfl)
noncomputable def au.lC (G:au) (i:Nat):List aw:=(cg G.n).map λ s=>(cg i).filter λ r=>G.left r==s
theorem ae0 (h:G.left i<G.n):G.lC (i+1)=(G.lC i).set (G.left i) ((G.lC i).getD (G.left i) []++[i]):=by
 refine uv (by simp [au.lC]) λ s J a=> ?_
 have b:s<G.n:=by simpa [au.lC] using J
 by_cases e:G.left i=s
 ·subst e;rw [List.getElem_set_self];simp [au.lC,wX,h]
 ·rw [List.getElem_set_ne (e)];simp [au.lC,wX,e]
theorem ae1:G.lC 0=eQ G.n []:=by
 refine List.eq_replicate_iff.mpr ⟨by simp [au.lC],λ b h=> ?_⟩
 obtain ⟨s,_,e⟩:=bH.mp h;exact e.symm
theorem QN (i s:Nat):(G.lC i).getD s []=if s<G.n then (cg i).filter λ r=>G.left r==s else []:=by
 unfold au.lC;rw [eS,ff]
 by_cases h:s<G.n
 ·rw [if_pos h,DC h];rfl
 ·rw [if_neg h,qD (by simpa using h)];rfl
noncomputable def au.rule (G:au) (i:Nat):Nat×aw:=(G.left i,G.right i)
theorem QO (h:i<G.R):G.rules.take (i+1)=G.rules.take i++[(G.left i,G.right i)]:=by
 rw [og,c4 h];have:G.rules[i]'h=(G.left i,G.right i):=by
  unfold au.left au.right;rw [eS,c4 h];rfl
 rw [this];rfl
noncomputable abbrev ae2 (H:ag) (G:au) (c:gb):Prop:=A2 (c.length=G.R) (∀i a,c[i]? =some a->∃b,H a=some (.inst .iy b)∧b .number=some (.int (i:Nat))∧b .left=some (.int (G.left i))∧b .right=some (.tup (nats (G.right i))))
theorem ae3 {C:gY} {L:Cells} {k:aJ} {st:aV} {K:dK} {x y:ak} {ys zs:aV} (m a:Nat) (h:lk m L=some (x,.list xs)) (h':lk a L=some (y,.list ys)) (b:m≠a) (c:xs.length+ys.length<lim) (d:xs++ys=zs) (q:T C B ((m,x,.list zs)::L) (bb C.n k (.none::st) A) K):T C B L (.cj e (.b .extend) 1::k,.ref y:: .ref x::st,A) K:=λ l H z f=>by
 subst d;exact ⟨_,rfl,.extend (f.3 _ _ _ h) (f.3 _ _ _ h') c (λ e=>b (f.4 _ _ _ _ _ h (e▸h'))) (q.go z (f.set h))⟩
theorem ae4 (Z:Base W P) (O:G.Ok) {nm p:ak} {ep st:ai} {w:aV} {j:gb} (J:H nm=some (.list w)) (z:w.length=G.n) (A:H p=some (.list (j.map .ref))) (R:ae2 H G j)
  (q:∀g aa,Ext H aa->dS aa g G->Q (.ref g) aa):dw W (r+2) .fq [.ref nm,.int (G.t:Nat),.ref p,lv,ep,st] H Q E:=by
 have gV:=O.3;have C:=O.5;have K:∀i,(j5 0 (G.rules.take i)).length<=G.N:=λ i=>by
  have:∀(rs t:List (Nat×aw)) (k:Nat),(j5 k rs).length<=(j5 k (rs++t)).length:=by
   intro rs
   induction rs with
   | nil=>intro t k;simp [l2,qd]
   | cons y rs ih=>intro t k;simp only [zW,l2,qd,cI];have:=ih t (k+1);exact pl this _
  have h:=this (G.rules.take i) (G.rules.drop i) 0;rw [wF] at h;exact h
 refine γ Z λ x X=>yo 8 X rfl<|fo 0 rfl rfl<|fo 0 rfl rfl<|fo 0 rfl rfl<|fo 0 rfl rfl<|fo 0 rfl rfl<|fo 0 rfl rfl<|bO (rc 0 rfl) rfl rfl<|Ot 10 (aL J) (by rw [z];unfold lim;exact bF (a9 O.2 (by decide))) λ as en gc L u Y ct=>fo 0 rfl rfl<|fw 11 rfl λ D=>fo 0 rfl rfl<|fw 12 rfl λ F=>fo 0 rfl rfl<|bO (rc 0 rfl) rfl rfl<| ?_
 rw [z] at u ct;refine eL (ys:=j) (c0:= .ref) [0,10,11,12] [0] (cQ:=λ _ s=>s) (cR:=λ d _=>[(0,x,.inst .fq (cy [(.owners,.ref F),(.JK,.ref D),(.JJ,.ref gc),(.start,st),(.expect,ep),(.levels,lv),(.rules,.ref p),(.JI,.int (G.t:Nat)),(.names,.ref nm)])),(10,gc,.list (as.map .ref)),(11,D,.list (nats (i4 0 (G.rules.take d.length)))),(12,F,.list (nats (j5 0 (G.rules.take d.length))))]) (lf:=λ _ _=>[(0,.ref x)])
  (λ d _ B=>Ext H B∧l3 B as (G.lC d.length)) en (rR (aL (L _ _ A)) λ _ _ _ i=>aL (i.1 _ _ A)) rfl rfl rfl ⟨L,ae1▸ct⟩ (λ d e7 e B K' hd aK b1 _=>⟨_,rfl,?_⟩) λ B aK=> ?_
 ·have M:j[d.length]? =some e7:=by rw [hd,jA (dn _),qM];rfl
  have l:d.length<G.R:=by rw [<- R.1];exact (cF.mp M).1
  refine (R.2 _ _ M).elim λ N r=> ?_;have v:=O.6.1 _ l;have m:as[G.left d.length]? =some as[G.left d.length]:=c4 (by rw [u];exact v)
  generalize as[G.left d.length]=b at m;have S:=aK.1 _ _ r.1;have T:=aK.2.3 _ _ m;have ae6:((G.lC d.length).getD (G.left d.length) []).length<=20:=by
   have:((cg d.length).filter λ r=>G.left r==G.left d.length).length<=(cg d.length).length:=qN ..;rw [gy] at this;rw [QN,if_pos v];exact bF (bx (a9 this l) gV)
  have U:=aK.1.upd (o:= .list (nats ((G.lC d.length).getD (G.left d.length) []++[d.length]))) (Y b (cY m));have qP:=aK.2.push (k:=d.length) m;rw [<- ae0 v] at qP;have V:=U _ _ r.1;have ae7:(i4 0 (G.rules.take d.length)).length<=20:=by rw [NX,mj];unfold au.R at gV;exact bD (.l .p (.k 20)<| .l .q .p<| .g .q (.k 20)) rfl gV (wu _ _)
  have n:=K d.length;have I:(G.right d.length).length<=50:=BR O l;refine bO (rc 0 rfl) rfl rfl<|bO (aL S) rfl r.2.2.1<|d4 (rc 10 rfl) (bX (bx v O.2) (by decide)) (by rw [ff,m];rfl)<|fl (aL T) rfl<|bO (aL S) rfl r.2.1<|yn T (by rw [eu];unfold lim;exact a9 ae6 (by decide)) (lg _ [_]).symm<|
   bO (rc 0 rfl) rfl rfl<|fl (rc 11 rfl) rfl<|bO (rc 0 rfl) rfl rfl<|iN (rc 12 rfl) (eu _) (by unfold lim;exact bF (a9 (bB n C) (by decide)))<|g0 (ys:=nats (i4 0 (G.rules.take (d.length+1)))) 11 rfl (by rw [eu];unfold lim;exact a9 ae7 (by decide)) (by rw [QO l,aeZ _ 0,lg,me];rfl)<|
   bO (rc 0 rfl) rfl rfl<|fl (rc 12 rfl) rfl<|bO (aL V) rfl r.2.1<|fw 13 rfl λ c=>bO (aL V) rfl r.2.2.2<|yj (eu _) (by unfold lim;exact bF (a9 I (by decide)))<|NU (i:=(G.right d.length).length+1) 14 (rc 13 rfl) (su (a9 I (by decide))) λ e=>ae3 (zs:=nats (j5 0 (G.rules.take (d.length+1)))) 12 14 rfl rfl (by decide) (by rw [eu,mn];unfold lim;exact ci (.l .p (.k 50)<| .l .q .p<| .l .r (.k 50)<| .g (.s (.a .q (.s .r))) (.k 16000000)) rfl C n I) ?_<|cK (b1 _ ⟨U,by rw [cI];exact qP⟩) (by rw [cI];rfl) rfl
  rw [QO l,aeY,lg,mj,me,aii (by unfold au.R at l;exact bF l)]
  simp [nats]
 ·have AS:G.rules.take j.length=G.rules:=by rw [R.1];exact zD
  have n:=K j.length;rw [R.1] at aK;rw [AS] at n ⊢;refine bO (rc 0 rfl) rfl rfl<|iN (rc 12 rfl) (eu _) (by unfold lim;exact bF (a9 (bB n C) (by decide)))<|fo 0 rfl rfl<|vG λ aa f=>⟨rfl,q x aa (λ a o h=>f.1 _ _ (aK.1 _ _ h)) ⟨_,nm,p,gc,D,F,w,j,as,f.get 0 rfl,rfl,rfl,rfl,rfl,rfl,rfl,f.1 _ _ (aK.1 _ _ J),z,f.1 _ _ (aK.1 _ _ A),R.1,λ i a h=> ?_,f.get 10 rfl,u,λ s a h=> ?_,f.get 11 rfl,f.get 12 rfl⟩⟩
  ·exact (R.2 i a h).elim λ N r=>⟨N,f.1 _ _ (aK.1 _ _ r.1),r.2⟩
  ·have aC:s<G.n:=by rw [<- u];exact (cF.mp h).1
   refine (f.1 _ _ (aK.2.3 s a h)).trans ?_;rw [QN,if_pos aC];rfl
end
section
variable {W:a0} {P:eg} {r:Nat} {E:ag->Prop} {H:ag} {Q:KE} {g:ak}
abbrev SL:=List (aW×bZ)
noncomputable def cN (L:SL):bZ:=L.foldl (λ ls p=>if p.1∈ls then ls else ls++[p.1]) []
noncomputable def gh (ls ns:bZ) (x:aW):bZ:=if x∉ls/\ x∉ns then ns++[x] else ns
noncomputable def ke:bZ:=[bj "$end",bj "error",bj "$undefined"]
noncomputable def eA (ls:bZ) (L:SL):bZ:=L.foldl (λ ns p=>p.2.foldl (gh ls) ns) ke
noncomputable def fC (L:SL):bZ:=eA (cN L) L++[bj "$accept"]++cN L
noncomputable def eH (L:SL):au:=⟨(eA (cN L) L).length,(fC L).length,((eA (cN L) L).length,[(fC L).idxOf ((cN L).headD ⟨#[]⟩),0])::L.map λ p=>((fC L).idxOf p.1,p.2.map (fC L).idxOf)⟩
noncomputable def eO (l:bZ):aV:=l.map .str
theorem sl (l:bZ):(eO l).length=l.length:=by simp [eO]
theorem CD (l m:bZ):eO (l++m)=eO l++eO m:=by simp [eO]
theorem Hv {s:aW}:ai.str s∈eO l↔s∈l:=by
 unfold eO;rw [bH];exact ⟨λ z=>z.elim λ a z=>(by injection z.2 with e;rw [<- e];exact z.1),λ h=>⟨s,h,rfl⟩⟩
theorem ae8 (l:bZ) (s:aW):(eO l).findIdx (λ y=>decide (y=ai.str s))=l.idxOf s:=by
 induction l with
 | nil=>rfl
 | cons a l ih=>
  unfold eO at ih ⊢;rw [fe,List.findIdx_cons,List.idxOf_cons,ih]
  by_cases h:a=s
  ·subst h;simp
  ·have:¬ai.str a=ai.str s:=λ e=>h (ai.str.inj e);simp [(beq_false_of_ne h:(a==s)=false),this]
noncomputable def h8:bZ:=[bj "s",bj "a",bj "b"]
noncomputable def lD:bZ:=[bj "x",bj "y",bj "z",bj "s",bj "a",bj "b"]
noncomputable abbrev t6 (L:SL):Prop:=iV (0<L.length) (L.length<=9) (∀p∈L,p.1∈h8) (∀p∈L,p.2.length<=3∧∀x∈p.2,x∈lD)
noncomputable abbrev sm (H:ag) (a:ak) (L:SL) (bs:gb):Prop:=gR (bs.length=L.length) (H a=some (.list ((L.zip bs).map λ z=> .tup [.str z.1.1,.ref z.2]))) (∀(i:Nat) (b:ak) (p:aW×bZ),bs[i]? =some b->L[i]? =some p->H b=some (.list (eO p.2)))
theorem sm.ext {aa:ag} (x:sm H a L bs) (k:Ext H aa):sm aa a L bs:=⟨x.1,k _ _ x.2,λ i b p J c=>k _ _ (x.3 i b p J c)⟩
noncomputable def jU (L:SL) (bs:gb):aV:=(L.zip bs).map λ z=> .tup [.str z.1.1,.ref z.2]
theorem ajU (c:bs.length=L.length) {v:ai} (h:v::xs=(jU L bs).drop i):dB λ p b=>L[i]? =some p∧bs[i]? =some b∧v= .tup [.str p.1,.ref b]∧xs=(jU L bs).drop (i+1):=by
 have hz:(jU L bs).length=L.length:=by simp [jU,c]
 have a:i<L.length:=by
  have:=congrArg gz h;rw [ah7,hz,f7] at this;exact Nat.lt_of_sub_pos (this▸m9 _)
 rw [wD (by rw [hz];exact a)] at h
 injection h with J d;refine ⟨L[i],bs[i]'(bx a (bE c.symm)),c4 a,c4 _,?_,d⟩;rw [J];simp [jU]
theorem ajV (a:bs.length=L.length) (h:[]=(jU L bs).drop i):L.length<=i:=by
 have:=congrArg gz h;simp [jU,a] at this;exact ci (.f (.k 0) .p<| .l .q (.a .p .r)<| .g .q .r) rfl this (sb _ _)
theorem Hw:∀l∈h8,l≠bj "error"/\ iQ l=true/\ iQ (Ii l none (some 1))=true/\ Ii l none (some 1)∉[bj "",bj "$",bj "'"]/\ l.length<=10/\ l∈lD:=by decide+kernel
theorem Hx:∀l∈lD,iQ l=true:=by decide+kernel
theorem QU:(∀l∈ke,iQ l=true)/\ iQ (bj "$accept")=true/\ (∀l∈[bj "",bj "$",bj "'"],iQ l=true):=by decide+kernel
theorem ajW (h:L[i]? =some p):cN (L.take (i+1))=if p.1∈cN (L.take i) then cN (L.take i) else cN (L.take i)++[p.1]:=by
 unfold cN;rw [og,h,ki];rfl
theorem ajX (h:L[i]? =some p):eA ls (L.take (i+1))=p.2.foldl (gh ls) (eA ls (L.take i)):=by
 unfold eA;rw [og,h,ki];rfl
theorem zb (h:∀p∈L,p.1∈h8):(∀l∈cN L,l∈h8)∧(cN L).Nodup:=by
 unfold cN;have key:∀(M:SL) (ls:bZ),(∀p∈M,p.1∈h8)->(∀l∈ls,l∈h8)∧ls.Nodup->(∀l∈M.foldl (λ ls p=>if p.1∈ls then ls else ls++[p.1]) ls,l∈h8)∧(M.foldl (λ ls p=>if p.1∈ls then ls else ls++[p.1]) ls).Nodup:=by
  intro M
  induction M with
  | nil=>intro ls _ h;exact h
  | cons p M ih=>
   intro ls d ⟨J,e⟩;rw [uz];refine ih _ (λ q g=>d q (.tail _ g)) ?_
   split
   ·exact ⟨J,e⟩
   ·rename_i i;refine ⟨λ l c=> ?_,?_⟩
    ·rcases c6.mp c with c | c
     ·exact J l c
     ·rw [b3] at c;subst c;exact d p (.head _)
    ·rw [gx];exact ⟨e,by simp,λ a j b f=>by simp at f;subst f;rintro rfl;exact i j⟩
 exact key L [] h ⟨λ l h=>(by cases h),.nil⟩
theorem ae9 {ns:bZ} (h:∀n∈ns,iQ n=true) (b:iQ x=true):∀n∈gh ls ns x,iQ n=true:=λ n a=>by
 unfold gh at a
 split at a
 ·rcases c6.mp a with a | a
  ·exact h n a
  ·rw [b3] at a;subst a;exact b
 ·exact h n a
theorem QV (ls:bZ):∀(l ns:bZ),(l.foldl (gh ls) ns).length<=ns.length+l.length:=by
 intro l
 induction l with
 | nil=>exact λ _=>dn _
 | cons x l ih=>
  intro ns;have h:(gh ls ns x).length<=ns.length+1:=by unfold gh;split<;>simp
  rw [uz,f7];exact eZ (.l .p (.a .q .r)<| .l .q (.s .t)<| .g .p (.a .t (.s .r))) rfl (ih (gh ls ns x)) h
theorem QW {ls:bZ}:∀(l:bZ) {ns:bZ},(∀n∈ns,iQ n=true)->(∀x∈l,iQ x=true)->∀n∈l.foldl (gh ls) ns,iQ n=true:=by
 intro l
 induction l with
 | nil=>exact λ h _=>h
 | cons x l ih=>exact λ h a=>ih (ae9 h (a x (.head _))) λ y b=>a y (.tail _ b)
theorem QX {ls:bZ}:∀(L:SL),(∀p∈L,p.2.length<=3∧∀x∈p.2,x∈lD)->(∀n∈eA ls L,iQ n=true)∧(eA ls L).length<=3+3*L.length:=by
 refine lq (λ _=>⟨QU.1,dn 3⟩) λ L p ih h=> ?_;obtain ⟨J,b⟩:=ih λ q c=>h q (f9 _ c);have a:=h p (by simp)
 have e:eA ls (L++[p])=p.2.foldl (gh ls) (eA ls L):=by unfold eA;rw [ki];rfl
 rw [e];refine ⟨QW p.2 J λ x d=>Hx x (a.2 x d),?_⟩;have:=a.1;rw [cI,nd];exact eZ (.l .p (.a (.k 3) (.m 3 .q))<| .l .r (.k 3)<| .l .t (.a .p .r)<| .g .t (.a (.k 3) (.m 3 (.s .q)))) rfl b a.1 (QV ls p.2 (eA ls L))
theorem afa (Z:Base W P) {l:aw} {t:Nat} (q:∀(z:Int) aa,Ext H aa->Q (.int z) aa):dw W (r+1) .DS [.tup (nats l),.int (t:Nat)] H Q E:=
 ZD Z (fN 4 rfl<|eL (ys:=l) (c0:=λ i:Nat=> .int i) [] [0,1,2] (cQ:=λ _ _=>H) (cR:=λ _ _=>[]) (lf:=λ _ z=>[(0,.tup (nats l)),(1,.int (t:Nat)),(2,.int z)]) (λ _ _ _=>True) (-1) vH rfl rfl rfl trivial (λ d i e z b _ _ a _=>⟨_,rfl,fv (λ _=>cK (a _ trivial) rfl rfl) λ _=>cK (a _ trivial) rfl rfl⟩) λ z _=>e9 λ aa f=>q z aa f.1)
end
section
variable {W:a0} {P:eg} {r:Nat} {E:ag->Prop} {H:ag} {Q:KE} {g:ak}
section
variable {C:gY} {B:ag} {L:Cells} {k:aJ} {st:aV} {A:du} {K:dK} {x y:ak} {l:bZ} {s:aW} {xs:aV} {e:Bool}
theorem Hy (a:∀x∈l,iQ x=true):∀y∈eO l,d1 4 y:=λ y b=>by
 obtain ⟨z,hz,rfl⟩:=bH.mp b;exact .str (a z hz)
theorem afb {i:Int} (h:s.length<=lim) (q:T C B L (bb C.n k (.str (Ii s none (some i))::st) A) K):T C B L (.slice::k,.int i:: .none:: .str s::st,A) K:=λ l H z f=>q0.str h (q.go z f)
theorem afc (e:xs=eO l) (J:iQ s=true) (a:∀x∈l,iQ x=true) (q:T C B L (bb C.n k (.bool (decide (s∈l))::st) A) K):T C B L (.cmp .In::k,.tup xs:: .str s::st,A) K:=λ a7 H z f=>by
 subst e;exact gm.Ea (.tup (.str J) (Hy a) (decide_eq_decide.mpr Hv▸q.go z f))
theorem CE (h:dD B L y (.list (eO l))) (J:iQ s=true) (a:∀x∈l,iQ x=true) (q:T C B L (bb C.n k (.bool (!decide (s∈l))::st) A) K):T C B L (.cmp .NotIn::k,.ref y:: .str s::st,A) K:=λ a7 H z f=>gm.Eb (.list (h H f) (.str J) (Hy a) (decide_eq_decide.mpr Hv▸q.go z f))
theorem afd (q:T C B L (bb C.n k (.bool false::st) A) K):T C B L (.cmp .IsNot::k,.none:: .none::st,A) K:=λ a7 H z f=>gm.JT (q.go z f)
theorem afe (h:dD B L x (.list (eO l))) (a:dD B L y (.list [])) (b:∀x∈l,iQ x=true) (q:T C B L (bb C.n k (.bool (decide (l=[]))::st) A) K):T C B L (.cmp .Eq::k,.ref y:: .ref x::st,A) K:=λ a7 H z f=>gm.eq (.list (h H f) (a H f) ⟨Hy b,λ _ h=>(by cases h)⟩ ((show decide (l=[])=decide (eO l=[]) from decide_eq_decide.mpr (by simp [eO]))▸q.go z f))
theorem aff (m:Nat) (a:xs.length<=lim) (q:∀c,T C B ((m,c,.list xs)::L) (bb C.n k (.ref c::st) A) K):T C B L (.call e .qQ 1::k,.tup xs::st,A) K:=jl rfl rfl λ l H z f=> .J1 a λ c aI=>(q c).go z (f.new m aI)
theorem CF (h:dD B L x (.list (eO l))) (a:l.length<=lim) (b:s∈l) (q:T C B L (bb C.n k (.int (l.idxOf s:Nat)::st) A) K):T C B L (.cj e (.b .index) 1::k,.str s:: .ref x::st,A) K:=λ a7 H z f=>⟨_,rfl,.index (h H f) (λ y c=>by obtain ⟨z,_,rfl⟩:=bH.mp c;exact ⟨z,rfl⟩) (sl l▸a) (Hv.mpr b) (by rw [ae8];exact q.go z f)⟩
theorem QY (Z:Base W P) {k0 c d:ai} (q:∀a b,B a=none->b .number=some k0->b .left=some c->b .right=some d->T ⟨W,r+2,E,n⟩ (B.upd a (.inst .iy b)) L (bb n k (.ref a::st) A) K'):T ⟨W,r+2,E,n⟩ B L (.call e .iy 4::k,lv::d::c::k0::st,A) K':=
 fm rfl rfl λ l H1 z f=>aeX Z λ a b m e g h J i j=>(q a b (f.1.none g) J i j).go z (f.yf e g h)
theorem afg (Z:Base W P) {l:aw} {t:Nat} (q:∀i:Int,T ⟨W,r+1,E,n⟩ B L (bb n k (.int i::st) A) K'):T ⟨W,r+1,E,n⟩ B L (.call e .DS 2::k,.int (t:Nat):: .tup (nats l)::st,A) K':=
 fm rfl rfl λ l H1 z f=>afa Z λ i a e=>(q i).go z (f.more e)
end
theorem QZ (L:SL) (p:aW×bZ):cN (L++[p])=if p.1∈cN L then cN L else cN L++[p.1]:=by unfold cN;rw [ki];rfl
theorem Q0 (ls:bZ) (L:SL) (p:aW×bZ):eA ls (L++[p])=p.2.foldl (gh ls) (eA ls L):=by unfold eA;rw [ki];rfl
theorem Hz (L:SL):(eH L).R=L.length+1:=by simp [eH,au.R]
theorem t7 (L:SL):(eH L).left 0=(eH L).t∧(eH L).right 0=[(fC L).idxOf ((cN L).headD ⟨#[]⟩),0]:=⟨rfl,rfl⟩
theorem v9 {i:Nat} (h:L[i]? =some p):(eH L).left (i+1)=(fC L).idxOf p.1∧(eH L).right (i+1)=p.2.map (fC L).idxOf:=by
 unfold au.left au.right eH;simp [h]
theorem HA:∀(L:SL),∀p∈L,p.1∈cN L:=by
 refine lq (λ _ h=>by cases h) λ L p ih q a=> ?_
 rw [QZ];rcases c6.mp a with a | a
 ·split
  ·exact ih q a
  ·exact f9 _ (ih q a)
 ·rw [b3] at a;subst a
  split
  ·assumption
  ·simp
theorem afh {ls ns:bZ} {x:aW}:(∀n∈ns,n∈gh ls ns x)∧(x∈ls∨x∈gh ls ns x):=by
 unfold gh
 split
 ·exact ⟨λ n h=>f9 _ h,.inr (by simp)⟩
 ·rename_i h;refine ⟨λ n h=>h,?_⟩
  by_cases J:x∈ls
  ·exact .inl J
  ·exact .inr (Decidable.byContradiction λ a=>h ⟨J,a⟩)
theorem afi {ls:bZ}:∀(l ns:bZ),(∀n∈ns,n∈l.foldl (gh ls) ns)∧∀x∈l,x∈ls∨x∈l.foldl (gh ls) ns:=by
 intro l
 induction l with
 | nil=>
  exact λ _=>⟨λ _ h=>h,λ _ h=>by cases h⟩
 | cons x l ih=>
  intro ns;obtain ⟨J,c⟩:=ih (gh ls ns x);have b:=afh (ls:=ls) (ns:=ns) (x:=x);refine ⟨λ n d=>J n (b.1 n d),λ y a=> ?_⟩;rcases dZ.mp a with rfl | a
  ·exact b.2.imp id (J _)
  ·exact c y a
theorem Q1 {ls:bZ}:∀(L:SL),(∀n∈ke,n∈eA ls L)∧∀p∈L,∀x∈p.2,x∈ls∨x∈eA ls L:=by
 refine lq ⟨λ _ h=>h,λ _ h=>by cases h⟩ λ L p ⟨J,c⟩=> ?_
 rw [Q0];have aD:=afi (ls:=ls) p.2 (eA ls L);refine ⟨λ n d=>aD.1 n (J n d),λ q a x b=> ?_⟩;rcases c6.mp a with a | a
 ·exact (c q a x b).imp id (aD.1 x)
 ·rw [b3] at a;subst a;exact aD.2 x b
theorem zc (h:p∈L):p.1∈fC L∧∀x∈p.2,x∈fC L:=by
 refine ⟨ix _ (HA L p h),λ x a=> ?_⟩;rcases (Q1 (ls:=cN L) L).2 p h x a with J | J
 ·exact ix _ J
 ·exact f9 _ (f9 _ J)
theorem sm.at_ (x:sm H a L bs) {z:(aW×bZ)×ak} (h:z∈L.zip bs):z.1∈L∧H z.2=some (.list (eO z.1.2)):=by
 obtain ⟨i,b,rfl⟩:=mi h;rw [List.length_zip] at b;rw [List.getElem_zip];exact ⟨jd _,x.3 i _ _ (c4 (ci (.l (.s .p) .q<| .l .q .r<| .g (.s .p) .r) rfl b (wu _ _))) (c4 (ci (.l (.s .p) .q<| .l .q .r<| .g (.s .p) .r) rfl b (oa _ _)))⟩
noncomputable abbrev HB (z:(aW×bZ)×ak):ai:= .tup [.str z.1.1,.ref z.2]
theorem afj (Z:Base W P) (j:t6 L) (ec:(eH L).Ok) (x:sm H a L bs) (q:∀g aa,Ext H aa->dS aa g (eH L)->Q (.ref g) aa):dw W (r+3) .Jq [.ref a] H Q E:=by
 have C:=j.2;have Q2:∀M:SL,(∀p∈M,p.1∈h8)->(cN M).length<=3:=λ M h=>(zb h).2.length_le_of_subset (l₂:=h8) λ l az=>(zb h).1 l az;have Q3:∀M:SL,(∀p∈M,p.1∈h8)->∀y∈cN M,iQ y=true:=λ M h y D=>(Hw y ((zb h).1 y D)).2.1;have hz:(L.zip bs).map (·.1)=L:=List.map_fst_zip (bE x.1.symm);have Q4:(L.zip bs).length=L.length:=by rw [<- cz (f:=(·.1)),hz]
 have R:∀{d e:List ((aW×bZ)×ak)} {z},L.zip bs=d++z::e->(∀p∈d.map (·.1),p∈L)∧z∈L.zip bs∧d.length<L.length:=λ {d e z} h=>⟨λ p m=>by
  rw [<- hz,h,eR];exact f9 _ m,by rw [h];simp,by rw [<- Q4,h,cI,f7];exact bD (.g (.s .p) (.a .p (.s .q))) rfl⟩
 have cX:cN L≠[]:=λ h=>by
  obtain ⟨p,m⟩:∃p,p∈L:=⟨_,jd j.1⟩;have:=HA L p m;rw [h] at this;cases this
 obtain ⟨w,lt,S⟩:dB λ b t=>cN L=b::t:=by cases h:cN L with | nil=>exact absurd h cX | cons b t=>exact ⟨b,t,rfl⟩
 have T:w∈cN L:=S▸.head _;have I:=Q3 L j.3;have Q5:=Q2 L j.3;refine ZE Z (fN 11 rfl<|fw 2 rfl λ le=>eL (ys:=L.zip bs) (c0:=HB) [2] [0,1,2] (cQ:=λ _ _=>H) (cR:=λ d _=>[(2,le,.list (eO (cN (d.map (·.1)))))]) (lf:=λ _ _=>[(0,.ref a),(1,.none),(2,.ref le)])
  (λ _ _ (_:Unit)=>True) () (li (aL x.2) λ _ _=>aL x.2) rfl rfl rfl trivial (λ d z e _ cV hd _ G _=>⟨_,rfl,?_⟩) λ _ _=> ?_)
 ·have dO:=R hd;have A:=Hw z.1.1 (j.3 _ (x.at_ dO.2.1).1);have iI:∀p∈d.map (·.1),p.1∈h8:=λ p m=>j.3 p (dO.1 p m);have es:=QZ (d.map (·.1)) z.1;rw [<- show (d++[z]).map (·.1)=d.map (·.1)++[z.1] from eR] at es;refine fv (λ h=>absurd h A.1) λ _=>afb (by unfold lim;exact bF (a9 A.2.2.2.2.1 (by decide)))<|afc (l:=[bj "",bj "$",bj "'"]) rfl A.2.2.1 QU.2.2<|fv (λ h=>absurd h A.2.2.2.1) λ _=>CE (rc 2 rfl) A.2.1 (Q3 _ iI)<|iM (λ h=>cK (G () trivial) (by rw [es,if_pos h];rfl) rfl) λ h=>fl (rc 2 rfl) rfl<|g0 2 rfl (by rw [sl];unfold lim;exact a9 (Q2 _ iI) (by decide)) (CD _ [_]).symm<|cK (G () trivial) (by rw [es,if_neg h];rfl) rfl
 rw [hz];refine afd<|nQ rfl<|fw 3 rfl λ c=>afe (rc 2 rfl) (rc 3 rfl) I<|fv (λ h=>absurd h cX) λ _=>d4 (i:=0) (v:= .str w) (rc 2 rfl) (by decide) (by rw [S];rfl)<|CE (rc 2 rfl) (I w T) I<|iM (λ _=> ?_) λ h=>absurd T h
 refine aff (xs:=eO ke) 6 (by decide) λ K=>eL (ys:=L.zip bs) (c0:=HB) [2,6] [0,2,5,6] (cQ:=λ _ _=>H) (cR:=λ d _=>[(2,le,.list (eO (cN L))),(6,K,.list (eO (eA (cN L) (d.map (·.1)))))]) (lf:=λ _ _=>[(0,.ref a),(2,.ref le),(5,.str w),(6,.ref K)])
  (λ _ _ (_:Unit)=>True) () (li (aL x.2) λ _ _=>aL x.2) rfl rfl rfl trivial (λ d z e _ cV hd _ G _=>⟨_,rfl,?_⟩) λ _ _=> ?_
 ·have U:=R hd;have V:=x.at_ U.2.1;have F:=j.4 z.1 V.1;have bI:=QX (ls:=cN L) (d.map (·.1)) λ p m=>j.4 p (U.1 p m);have Q6:=bI.2;rw [cz] at Q6;refine eL (ys:=z.1.2) (c0:= .str) [2,6] [0,2,5,6] (cQ:=λ _ _=>H) (cR:=λ B _=>[(2,le,.list (eO (cN L))),(6,K,.list (eO (B.foldl (gh (cN L)) (eA (cN L) (d.map (·.1))))))]) (lf:=λ _ _=>[(0,.ref a),(2,.ref le),(5,.str w),(6,.ref K)])
   (λ _ _ (_:Unit)=>True) () (li (aL V.2) λ _ _=>aL V.2) rfl rfl rfl trivial (λ B s a5 _ iJ X _ Y _=>⟨_,rfl,?_⟩) λ _ _=>cK (G () trivial) (by rw [eR,List.map_singleton,Q0];rfl) rfl
  have fY:∀y∈B,y∈z.1.2:=λ y D=>by rw [X];exact f9 _ D
  have Q7:=Hx s (F.2 s (by rw [X];simp))
  have afk:=QV (cN L) B (eA (cN L) (d.map (·.1)));have nv:B.length<=3:=by have h0:=F.1;have:=congrArg gz X;rw [cI] at this;exact ci (.l .p (.k 3)<| .f .p (.a .q .r)<| .g .q (.k 3)) rfl F.1 this
  have es:(B++[s]).foldl (gh (cN L)) (eA (cN L) (d.map (·.1)))=gh (cN L) (B.foldl (gh (cN L)) (eA (cN L) (d.map (·.1)))) s:=by rw [ki];rfl
  exact CE (rc 2 rfl) Q7 I<|iM (λ h=>cK (Y () trivial) (by rw [es,gh,if_neg λ k=>k.1 h];rfl) rfl) λ h=>CE (rc 6 rfl) Q7 (QW (ls:=cN L) B bI.1 λ y D=>Hx y (F.2 y (fY y D)))<|iM (λ h'=>cK (Y () trivial) (by rw [es,gh,if_neg λ k=>k.2 h'];rfl) rfl) λ h'=>fl (rc 6 rfl) rfl<|g0 6 rfl (by rw [sl];unfold lim;exact hC (.l .p (.k 9) (n:=3)<| .l (.s .q) .p (n:=3)<| .l .r (.a (.k 3) (.m 3 .q))<| .l .t (.a .r .u)<| .l .u (.k 3)<| .g (.s .t) (.k 16000000)) rfl C U.2.2 Q6 afk nv) (CD _ [_]).symm<|cK (Y () trivial) (by rw [es,gh,if_pos ⟨h,h'⟩];rfl) rfl
 rw [hz];have N:=QX (ls:=cN L) L j.4;have O:(fC L).length<=40:=by simp [fC];exact ci (.l .p (.k 9) (n:=3)<| .l .q (.k 3)<| .l .r (.a (.k 3) (.m 3 .p))<| .g (.a .r (.s .q)) (.k 40)) rfl C Q5 N.2
 have Q8:w∈fC L:=ix _ T;have afl:(cN L).headD ⟨#[]⟩=w:=by rw [S];rfl
 refine iN (rc 6 rfl) (sl _) (by unfold lim;exact bD (.l .p (.k 9) (n:=3)<| .l .q (.a (.k 3) (.m 3 .p))<| .g .q (.k 16000000)) rfl C N.2)<|fw 7 rfl λ dI=>BG (zs:=eO (eA (cN L) L++[bj "$accept"])) 8 (rc 6 rfl) (rc 7 rfl) (by rw [sl];show _+1<=_;unfold lim;exact bD (.l .p (.k 9) (n:=3)<| .l .q (.a (.k 3) (.m 3 .p))<| .g (.s .q) (.k 16000000)) rfl C N.2) (CD _ [_]).symm λ b2=>BG (zs:=eO (fC L)) 6 (rc 8 rfl) (rc 2 rfl) (by rw [sl,sl,cI];show _+1+_<=_;unfold lim;exact ci (.l .p (.k 9) (n:=3)<| .l .q (.k 3)<| .l .r (.a (.k 3) (.m 3 .p))<| .g (.a (.s .r) .q) (.k 16000000)) rfl C Q5 N.2) (CD _ _).symm λ nm=>fl (rc 6 rfl) rfl<|CF (rc 6 rfl) (by unfold lim;exact bF (a9 O (by decide))) Q8<|QY Z λ Q9 Ra yP g1 g2 g3=>fw 9 rfl λ yr=> ?_
 refine eL (ys:=L.zip bs) (c0:=HB) [6,9] [0,5,6,8,9] (cQ:=λ _ (s:ag×gb)=>s.1) (cR:=λ _ s=>[(6,nm,.list (eO (fC L))),(9,yr,.list (s.2.map .ref))]) (lf:=λ _ _=>[(0,.ref a),(5,.str w),(6,.ref nm),(8,.int ((eH L).t:Nat)),(9,.ref yr)])
  (λ d _ s=>Ext H s.1∧s.2.length=d.length+1∧∀k a,s.2[k]? =some a->∃u,s.1 a=some (.inst .iy u)∧u .number=some (.int (k:Nat))∧u .left=some (.int ((eH L).left k))∧u .right=some (.tup (nats ((eH L).right k)))) (H.upd Q9 (.inst .iy Ra),[Q9]) (rR (aL (Ext.new yP _ _ x.2)) λ _ _ _ i=>aL (i.1 _ _ x.2)) rfl rfl rfl ⟨.new yP,rfl,λ k a ao=> ?_⟩ (λ d z e s cV hd aK G _=>⟨_,rfl,?_⟩) λ s aK=> ?_
 ·cases k with
  | succ k=>simp at ao
  | zero=>
   cases ao;exact ⟨Ra,ag.fL ..,g1,g2,by rw [g3,(t7 L).2,afl];rfl⟩
 ·have aQ:=R hd;have aD:=x.at_ aQ.2.1;have m:L[d.length]? =some z.1:=by rw [<- hz,hd,eR,jA (by rw [cz];exact dn _),cz,qM];rfl
  have Rb:=zc aD.1;have F:=j.4 z.1 aD.1;have yQ:=aK.1 _ _ aD.2;refine nT 10 z.1.2 (λ s=> .int ((fC L).idxOf s:Nat)) (ym (aL yQ) λ aa f=>f.1 _ _ yQ) (by unfold lim;exact bF (a9 F.1 (by decide))) (λ y D K' eW=>⟨_,rfl,fl (rc 6 rfl) rfl<|CF (rc 6 rfl) (by unfold lim;exact bF (a9 O (by decide))) (Rb.2 y D)<|eW _⟩) λ c=>qa (rc 10 rfl) (by rw [cz];unfold lim;exact bF (a9 F.1 (by decide))) ?_
  rw [show z.1.2.map (λ s=>ai.int ((fC L).idxOf s:Nat))=nats ((eH L).right (d.length+1)) by rw [(v9 m).2];simp [nats]]
  refine fl (rc 9 rfl) rfl<|iN (i:=d.length+1) (rc 9 rfl) (by rw [cz];exact aK.2.1) (by unfold lim;exact su (bX (bx aQ.2.2 C) (by decide)))<|fl (rc 6 rfl) rfl<|CF (rc 6 rfl) (by unfold lim;exact bF (a9 O (by decide))) Rb.1<|afg Z λ i=>QY Z λ e7 u av J af aM=>g0 (ys:=(s.2++[e7]).map .ref) 9 rfl (by have:=aK.2.1;rw [cz];unfold lim;exact ci (.l .p (.k 9)<| .e .q (.s .r)<| .l (.s .r) .p<| .g (.s .q) (.k 16000000)) rfl C aK.2.1 aQ.2.2) (by rw [eR];rfl)<|cK (G (s.1.upd e7 (.inst .iy u),s.2++[e7]) ⟨aK.1.trans (.new av),by rw [cI,cI,aK.2.1];rfl,λ k a ao=> ?_⟩) rfl rfl
  rcases kI ao with ao | ⟨ko,rfl⟩
  ·exact (aK.2.2 k a ao).elim λ afm g=>⟨afm,Ext.new av _ _ g.1,g.2⟩
  ·rw [aK.2.1] at ko;subst ko;exact ⟨u,ag.fL ..,J,by rw [af,(v9 m).1],aM⟩
 ·refine lh 13 .int λ lv=>fl (rc 6 rfl) rfl<|CF (rc 6 rfl) (by unfold lim;exact bF (a9 O (by decide))) Q8<|fm rfl rfl λ l H1 z f=>ae4 Z ec (f.get 6 rfl) (sl _) (f.get 9 rfl) ⟨by rw [Hz,aK.2.1,Q4],λ k a ao=> ?_⟩ λ g aa e c9=>q g aa (λ a o h=>e _ _ (f.1 _ _ (aK.1 _ _ h))) c9
  exact (aK.2.2 k a ao).elim λ u g=>⟨u,f.1 _ _ g.1,g.2⟩
end
section
variable {W:a0} {P:eg} {r:Nat} {E:ag->Prop} {H:ag} {Q:KE} {g:ak}
noncomputable abbrev CH (R:aw):Prop:=gR (0<R.length) (R.length<=24) (∀x∈R,x<999983)
noncomputable def eP (R:aw) (i m:Nat):Nat:=(R.getD (i%R.length) 0/(1+i/R.length)+5*(i/R.length))%m
theorem m3 (R:aw) (i:Nat) {m:Nat} (h:0<m):eP R i m<m:=Dh _ h
section
variable {C:gY} {B:ag} {L:Cells} {k:aJ} {st:aV} {A:du} {K:dK} {x y:Nat} {e:Bool}
theorem HD (x y:Nat) (h:0<y) (a:y<1000000000) (q:T C B L (bb C.n k (.int (x/y:Nat)::st) A) K):T C B L (.bin .FloorDiv::k,.int (y:Nat):: .int (x:Nat)::st,A) K:=λ l H z f=>gK.fdiv (aiD.mpr (m7 h)) a (agS _ (m6 y)▸q.go z f)
theorem HE (x y:Nat) (h:0<y) (q:T C B L (bb C.n k (.int (x%y:Nat)::st) A) K):T C B L (.bin .Mod::k,.int (y:Nat):: .int (x:Nat)::st,A) K:=λ l H z f=>gK.mod (aiD.mpr (m7 h)) (Jk _ (m6 y)▸q.go z f)
theorem t9 (x y:Nat) (J:x<1000000000) (a:y<1000000000) (q:T C B L (bb C.n k (.int (x*y:Nat)::st) A) K):T C B L (.bin .Mult::k,.int (y:Nat):: .int (x:Nat)::st,A) K:=λ l H z f=>gK.JS (bX J (by decide)) (q.go z f)
theorem lE {n:Nat} (Z:Base W P) {R:aw} (O:CH R) (i m:Nat) (b:dD B L a (.list (nats R))) (c:i<1000) (d:0<m) (q:T ⟨W,r+1,E,n⟩ B L (bb n k (.int (eP R i m:Nat)::st) A) K'):T ⟨W,r+1,E,n⟩ B L (.call e .Jr 3::k,.int (m:Nat):: .int (i:Nat):: .ref a::st,A) K':=by
 have hd:i/R.length<=i:=Nat.div_le_self ..;have bK:=Dh i O.1;refine fm rfl rfl λ l H1 z f=>ZF Z (fN 4 rfl<|iN (aL (b _ f)) (eu _) (by unfold lim;exact bF (a9 O.2 (by decide)))<|HD i R.length O.1 (a9 O.2 (by decide))<|iN (aL (b _ f)) (eu _) (by unfold lim;exact bF (a9 O.2 (by decide)))<|HE i R.length O.1<|d4 (aL (b _ f)) (bX (bx bK O.2) (by decide)) (l0 bK)<|HD _ (1+i/R.length) (bx Nat.zero_lt_one (fJ ..)) (bD (.l (.s .p) (.k 1000)<| .l .q .p<| .g (.s (.a .o .q)) (.k 1000000000)) rfl c hd)<|t9 5 (i/R.length) (by decide) (bX (a9 hd c) (by decide))<|HE (R.getD (i%R.length) 0/(1+i/R.length)+5*(i/R.length)) m d<|e9 λ aa g=>q.go z (f.more g.1))
theorem ua {st':aV} (h:rM n [] st=some (xs,st')) (q:∀a,B a=none->T C (B.upd a (.list xs)) L (bb C.n k (.ref a::st') A) K):T C B L (.list n::k,st,A) K:=λ l H z f c aI=>by
 have b:=vD h;have d:=b.1;have e:=b.2;rw [h9] at d;subst d e;exact (q c (f.1.none aI)).go z (f.grow aI)
theorem afn {x:ak} {vs:aV} {is:aw} {gg:du} (h:dD B L x (.list vs)) (b:yg C.n is vs A=some gg) (q:T C B L (bb C.n k st gg) K):T C B L (.st (.tup is)::k,.ref x::st,A) K:=λ l H a f=>by
 obtain ⟨a7,aD⟩:=yh (t:= .tup is) (v:= .tup vs) b a;exact .inr ⟨is,x,vs,a7,rfl,rfl,h H f,aD.1,q.go aD.2 f⟩
theorem HF {p:aJ×aV×du} {iK:Cells} (n:Nat) (ms:aw) (h:lk n L=some (a,o)) (b:n∉ms) (c:sel ms L=iK) (q:B a=none->T C (B.upd a o) iK p K):T C B L p K:=λ l H z f=>q (f.2 _ _ _ h) l H z (c▸f.bS h b)
theorem afo {s:aW} (m:Nat) (a:s.length<=1000) (q:∀c,T C B ((m,c,.list (s.cps.toList.map λ n=> .str ⟨#[n]⟩))::L) (bb C.n k (.ref c::st) A) K):T C B L (.call e .qQ 1::k,.str s::st,A) K:=jl rfl rfl λ l H z f=> .listS a λ c aI=>(q c).go z (f.new m aI)
end
noncomputable abbrev ip:aW:=bj "x"
noncomputable abbrev iq:aW:=bj "y"
noncomputable abbrev ha:aW:=bj "z"
noncomputable abbrev gE:aW:=bj "s"
noncomputable abbrev hb:aW:=bj "a"
noncomputable abbrev sB:aW:=bj "b"
noncomputable def Rc:bZ:=[bj "xyz",bj "xzy",bj "yxz",bj "yzx",bj "zxy",bj "zyx"]
noncomputable def zd:List (aW×aW×aW):=[(ip,iq,ha),(ip,ha,iq),(iq,ip,ha),(iq,ha,ip),(ha,ip,iq),(ha,iq,ip)]
theorem afp:∀k,k<6->dB λ o x=>dB λ y z=>Rc[k]? =some o∧o.length<=1000∧(o.cps.toList.map λ n=>(⟨#[n]⟩:aW))=[x,y,z]∧(x,y,z)∈zd
 | 0,_=>⟨_,ip,iq,ha,rfl,by decide+kernel,by decide+kernel,by decide+kernel⟩
 | 1,_=>⟨_,ip,ha,iq,rfl,by decide+kernel,by decide+kernel,by decide+kernel⟩
 | 2,_=>⟨_,iq,ip,ha,rfl,by decide+kernel,by decide+kernel,by decide+kernel⟩
 | 3,_=>⟨_,iq,ha,ip,rfl,by decide+kernel,by decide+kernel,by decide+kernel⟩
 | 4,_=>⟨_,ha,ip,iq,rfl,by decide+kernel,by decide+kernel,by decide+kernel⟩
 | 5,_=>⟨_,ha,iq,ip,rfl,by decide+kernel,by decide+kernel,by decide+kernel⟩
 | k+6,h=>absurd h (wz (ct (.g (.k 6) (.a .p (.k 6))) rfl))
noncomputable def cM (x y z:aW):SL:=[(gE,[z,z]),(gE,[x,hb,x]),(gE,[y,hb,y]),(gE,[x,sB,y]),(gE,[y,sB,x]),(hb,[z]),(sB,[z])]
noncomputable def CI:bZ:=[ip,iq,ha,hb,sB]
noncomputable def lF:bZ:=[ip,iq,gE,hb]
noncomputable def lG:bZ:=[ip,iq]
def Part (l:aW) (L:SL):Prop:=dB λ (w:bZ) (a:List bZ)=>L=(l,w)::a.map (λ v=>(l,v))∧w.length<=2∧(∀x∈w,x∈lG)∧0<a.length∧a.length<=2∧∀v∈a,v.length<=2∧∀x∈v,x∈lF
def CJ (L:SL):Prop:=hi λ x y z=>(x,y,z)∈zd∧(L=cM x y z∨dB λ (l:aW) (w:bZ)=>l∈h8∧w.length<=2∧(∀x∈w,x∈CI)∧L=cM x y z++[(l,w)])
def wa (L:SL):Prop:=dB λ ct bD=>Part gE ct∧Part hb bD∧L=ct++bD
noncomputable abbrev pk (B:ag) (L:SL) (bs:gb):Prop:=A2 (bs.length=L.length) (∀(i:Nat) (b:ak) (p:aW×bZ),bs[i]? =some b->L[i]? =some p->B b=some (.list (eO p.2)))
theorem pk.push {L:SL} {bs:gb} {l:aW} {w:bZ} (x:pk B L bs) (aI:B c=none):pk (B.upd c (.list (eO w))) (L++[(l,w)]) (bs++[c]):=by
 refine ⟨by simp [x.1],λ i b p J a=> ?_⟩
 rcases kI J with J | ⟨d,rfl⟩<;>rcases kI a with a | ⟨e,rfl⟩
 ·exact Ext.new aI _ _ (x.2 i b p J a)
 ·exact (fR 0 (ci (.f .p .q<| .l (.s .p) .r<| .e .r .q<| .g .o (.k 0) (n:=0)) rfl e ((cF.mp J).1) x.1)).elim
 ·exact (fR 0 (ci (.f .p .q<| .l (.s .p) .r<| .f .q .r<| .g .o (.k 0) (n:=0)) rfl d ((cF.mp a).1) x.1)).elim
 ·exact ag.fL ..
theorem pk.at_ (x:pk B L bs) (e:Ext B H) (h:H a=some (.list (jU L bs))):sm H a L bs:=⟨x.1,h,λ i b p J c=>e _ _ (x.2 i b p J c)⟩
theorem HG (h:bs.length=L.length) {l:aW}:jU L bs++[.tup [.str l,.ref c]]=jU (L++[(l,w)]) (bs++[c]):=by
 unfold jU;rw [List.zip_append h.symm,eR];rfl
theorem Rd (h:bs.length=L.length):(jU L bs).length=L.length:=by simp [jU,h]
noncomputable def jV (R:aw) (al:bZ) (b m n:Nat):bZ:=(cg n).map λ k=>al.getD (eP R (b+k) m) ⟨#[]⟩
theorem HH {R:aw} {al:bZ} {b m n:Nat} (a:0<m) (h:m<=al.length):(jV R al b m n).length=n∧∀x∈jV R al b m n,x∈al:=by
 refine ⟨by simp [jV],λ x c=> ?_⟩
 obtain ⟨k,_,rfl⟩:=bH.mp c;rw [eS,c4 (bx (m3 R (b+k) a) h)];exact jd _
theorem HI {R:aw} {b m:Nat}:(cg n).map (λ k=>ai.str (al.getD (eP R (b+k) m) ⟨#[]⟩))=eO (jV R al b m n):=by unfold eO jV;rw [e5];rfl
theorem CK {k:Nat} (h:k<al.length):(eO al)[k]? =some (.str (al.getD k ⟨#[]⟩)):=by
 unfold eO;rw [ff,eS,c4 h];rfl
end
section
variable {W:a0} {P:eg} {r:Nat} {E:ag->Prop} {H:ag} {Q:KE} {g:ak}
theorem afq (Z:Base W P) {R:aw} (O:CH R) (M:H e7=some (.list (nats R))) (q:∀a L bs aa,Ext H aa->CJ L∨wa L->sm aa a L bs->Q (.ref a) aa):dw W (r+2) .Js [.ref e7] H Q E:=by
 refine ZG Z (fN 10 rfl<|lE Z O 0 4 (aL M) (by decide) (by decide)<|fv (λ _=> ?_) λ _=> ?_)
 ·obtain ⟨o,x,y,z,N⟩:=afp (eP R 1 6) (m3 R 1 (by decide))
  have afr:(o.cps.toList.map λ n=>ai.str ⟨#[n]⟩)=[.str x,.str y,.str z]:=by
   have:=congrArg (Tq ai.str) N.2.2.1;rwa [e5] at this
  refine lE Z O 1 6 (aL M) (by decide) (by decide)<|rN (xs:=eO Rc) (by exact bX (m3 R 1 (m:=6) (by decide)) (by decide)) (by unfold eO;rw [ff,N.1];rfl)<|afo 3 N.2.1 λ c=> ?_
  rw [afr];refine afn (rc 3 rfl) rfl<|ua rfl λ U J=>ua rfl λ V C=>ua rfl λ Y aM=>ua rfl λ HJ cb=>ua rfl λ vl D=>fw 5 rfl λ ajY=>ua rfl λ HK hD=>ua rfl λ HL qS=>fw 6 rfl λ ajZ=>BG (zs:=jU (cM x y z) [U,V,Y,HJ,vl,HK,HL]) 4 (rc 5 rfl) (rc 6 rfl) (show 5+2<=lim by decide) rfl λ F=> ?_
  have X:=((((((pk.push (L:=[]) (bs:=[]) (l:=gE) (w:=[z,z]) ⟨rfl,λ _ _ _ h=>by simp at h⟩ J).push (l:=gE) (w:=[x,hb,x]) C).push (l:=gE) (w:=[y,hb,y]) aM).push (l:=gE) (w:=[x,sB,y]) cb).push (l:=gE) (w:=[y,sB,x]) D).push (l:=hb) (w:=[z]) hD).push (l:=sB) (w:=[z]) qS
  have et:=(((((((Ext.new J).trans (.new C)).trans (.new aM)).trans (.new cb)).trans (.new D)).trans (.new hD)).trans (.new (o:= .list [.str z]) qS));refine (λ (B:ag) (X:pk B (cM x y z) [U,V,Y,HJ,vl,HK,HL]) (et:Ext H B)=> ?_:∀B:ag,pk B (cM x y z) [U,V,Y,HJ,vl,HK,HL]->Ext H B->T _ B _ _ _) _ X et;have G:=et _ _ M;refine lE Z O 2 3 (aL G) (by decide) (by decide)<|fv (λ _=> ?_) λ _=>e9 λ aa f=>q F _ _ aa (λ a o h=>f.1 _ _ (et _ _ h)) (.inl ⟨x,y,z,N.2.2.2,.inl rfl⟩) (X.at_ f.1 (f.get 4 rfl))
  have Re:=m3 R 3 (m:=3) (by decide)
  have Rf:eP R 3 3<h8.length:=Re;have u:=m3 R 4 (m:=3) (by decide)
  have hw:=HH (R:=R) (al:=[ip,iq,ha,hb,sB,ha]) (b:=5) (m:=6) (n:=eP R 4 3) (by decide) (by decide)
  refine fw (xs:=eO h8) 7 rfl λ d=>lE Z O 3 3 (aL G) (by decide) (by decide)<|d4 (rc 7 rfl) (bX Re (by decide)) (CK Rf)<|lE Z O 4 3 (aL G) (by decide) (by decide)<|fl (rc 4 rfl) rfl<|l1 (bX u (by decide))<|j4 [4] [0,1,2,3,4,5,6] rfl rfl<|nT 5 (cg (eP R 4 3)) (λ k=> .str ([ip,iq,ha,hb,sB,ha].getD (eP R (5+k) 6) ⟨#[]⟩)) (nS (bX u (by decide))) (by rw [gy];unfold lim;exact bF (bX u (by decide))) (λ k ao K' S=>⟨_,rfl,?_⟩) λ c=> ?_
  ·have bK:=m3 R (5+k) (m:=6) (by decide)
   exact fw (xs:=eO [ip,iq,ha,hb,sB,ha]) 5 rfl λ d=>lE Z O (5+k) 6 (aL G) (bD (.l (.s .p) (.k 3)<| .l (.s .q) .p<| .g (.s (.a (.k 5) .q)) (.k 1000)) rfl u (fK.mp ao)) (by decide)<|d4 (rc 5 rfl) (bX bK (by decide)) (CK bK)<|j4 [4] [] rfl rfl<|S _
  rw [HI];refine HF 5 [4] rfl (by decide) rfl λ aI=> ?_
  refine g0 (ys:=jU (cM x y z++[(h8.getD (eP R 3 3) ⟨#[]⟩,jV R [ip,iq,ha,hb,sB,ha] 5 6 (eP R 4 3))]) _) 4 rfl (show 7<lim by decide) (HG rfl)<|e9 λ aa f=>q F _ _ aa (λ a o h=>f.1 _ _ (Ext.new aI _ _ (et _ _ h))) (.inl ⟨x,y,z,N.2.2.2,.inr ⟨_,_,?_,by rw [hw.1];exact ct (.l (.s .p) (.k 3)<| .g .p (.k 2)) rfl u,λ x ay=> ?_,rfl⟩⟩) ((X.push (l:=h8.getD (eP R 3 3) ⟨#[]⟩) (w:=jV R [ip,iq,ha,hb,sB,ha] 5 6 (eP R 4 3)) aI).at_ f.1 (f.get 4 rfl))
  ·rw [eS,c4 Rf];exact jd _
  ·exact (by decide+kernel:∀x∈[ip,iq,ha,hb,sB,ha],x∈CI) x (hw.2 x ay)
 ·refine fw 4 rfl λ F=>eL (ys:=[((8:Nat),gE),(24,hb)]) (c0:=λ p=> .tup [.int (p.1:Nat),.str p.2]) [4] [0,4] (cQ:=λ _ (s:ag×SL×gb)=>s.1) (cR:=λ _ s=>[(4,F,.list (jU s.2.1 s.2.2))]) (lf:=λ _ _=>[(0,.ref e7),(4,.ref F)])
   (λ d _ s=>Ext H s.1∧pk s.1 s.2.1 s.2.2∧(d.length=0->s.2.1=[])∧(d.length=1->Part gE s.2.1)∧(d.length=2->wa s.2.1)) (H,[],[]) vH rfl rfl rfl ⟨Ext.refl H,⟨rfl,λ _ _ _ h=>by simp at h⟩,λ _=>rfl,λ h=>(by cases h),λ h=>(by cases h)⟩ (λ d p e s cV hd aK b1 _=>⟨_,rfl,?_⟩) λ s aK=>e9 λ aa f=>q F _ _ aa (λ a o h=>f.1 _ _ (aK.1 _ _ h)) (.inr (aK.2.2.2.2 rfl)) (aK.2.1.at_ f.1 (f.get 4 rfl))
  have A:p.1<=24∧(d.length=0∧p.2=gE∨d.length=1∧p.2=hb):=by
   cases d with
   | nil=>cases hd;exact ⟨by decide,.inl ⟨rfl,rfl⟩⟩
   | cons _ d=>cases d with
    | nil=>cases hd;exact ⟨by decide,.inr ⟨rfl,rfl⟩⟩
    | cons _ d=>have:=congrArg gz hd;simp at this
  have aj0:=A.1;have hlen:s.2.1.length<=5:=by
   rcases A.2 with h | h
   ·rw [aK.2.2.1 h.1];decide
   ·obtain ⟨w,ws,aQ⟩:=aK.2.2.2.1 h.1;rw [aQ.1];simp;exact bF (a9 aQ.2.2.2.2.1 (by decide))
  have G:=aK.1 _ _ M;have u:=m3 R p.1 (m:=3) (by decide)
  have hw:=HH (R:=R) (al:=lG) (b:=p.1+1) (m:=2) (n:=eP R p.1 3) (by decide) (by decide)
  refine fl (rc 4 rfl) rfl<|lE Z O p.1 3 (aL G) (a9 A.1 (by decide)) (by decide)<|l1 (bX u (by decide))<|nT 5 (cg (eP R p.1 3)) (λ k=> .str (lG.getD (eP R (p.1+1+k) 2) ⟨#[]⟩)) (nS (bX u (by decide))) (by rw [gy];unfold lim;exact bF (bX u (by decide))) (λ k ao K' S=>⟨_,rfl,?_⟩) λ c=> ?_
  ·have bK:=m3 R (p.1+1+k) (m:=2) (by decide)
   exact fw (xs:=eO lG) 5 rfl λ d=>lE Z O (p.1+1+k) 2 (aL G) (ci (.l .p (.k 24)<| .l (.s .q) (.k 3)<| .l (.s .r) .q<| .g (.s (.a (.s .p) .r)) (.k 1000)) rfl A.1 u (fK.mp ao)) (by decide)<|d4 (rc 5 rfl) (bX bK (by decide)) (CK bK)<|j4 [4] [] rfl rfl<|S _
  rw [HI];refine HF 5 [4] rfl (by decide) rfl λ aI=> ?_
  have I:=m3 R (p.1+4) (m:=2) (by decide)
  refine g0 4 rfl (by rw [Rd aK.2.1.1];unfold lim;exact a9 hlen (by decide)) (HG aK.2.1.1)<|lE Z O (p.1+4) 2 (aL (Ext.new aI _ _ G)) (ct (.l .p (.k 24)<| .g (.s (.a .p (.k 4))) (.k 1000)) rfl A.1) (by decide)<|l1 (i:=1+eP R (p.1+4) 2) (ct (.l (.s .p) (.k 2)<| .g (.s (.a .o .p)) (.k 1152921504606846976)) rfl I)<|eL (ys:=cg (1+eP R (p.1+4) 2)) (c0:=λ i:Nat=> .int (i:Nat)) [4] [0,4,5,7] (cQ:=λ _ (t:ag×List bZ×gb)=>t.1) (cR:=λ _ t=>[(4,F,.list (jU (s.2.1++(p.2,jV R lG (p.1+1) 2 (eP R p.1 3))::t.2.1.map (p.2,·)) t.2.2))]) (lf:=λ _ _=>[(0,.ref e7),(4,.ref F),(5,.str p.2),(7,.int (p.1:Nat))])
   (λ d _ t=>Ext H t.1∧pk t.1 (s.2.1++(p.2,jV R lG (p.1+1) 2 (eP R p.1 3))::t.2.1.map (p.2,·)) t.2.2∧t.2.1.length=d.length∧∀v∈t.2.1,v.length<=2∧∀x∈v,x∈lF) (_,[],s.2.2++[c]) (nS (ct (.l (.s .p) (.k 2)<| .g (.s (.a .o .p)) (.k 1152921504606846976)) rfl I)) rfl rfl rfl ⟨aK.1.trans (.new aI),(aK.2.1.push (l:=p.2) (w:=jV R lG (p.1+1) 2 (eP R p.1 3)) aI),rfl,λ _ h=>hQ h⟩ (λ dN k a5 t iJ hd2 g d0 _=>⟨_,rfl,?_⟩) λ t g=> ?_
  ·have ao:=hr hd2;have ay:=ao;have BP:=ao.2.1;have aj1:=ao.2.2;have Rg:=g.1 _ _ M;have D:=m3 R (p.1+5+5*k) (m:=2) (by decide)
   have yv:=HH (R:=R) (al:=lF) (b:=p.1+5+5*k+1) (m:=4) (n:=1+eP R (p.1+5+5*k) 2) (by decide) (by decide)
   refine t9 5 k (by decide) (bD (.l (.s .p) (.k 2)<| .l (.s .q) (.a .o .p)<| .g (.s .q) (.k 1000000000)) rfl I ao.2.1)<|lE Z O (p.1+5+5*k) 2 (aL Rg) (ci (.l .p (.k 24)<| .l (.s .q) (.k 2) (n:=5)<| .l (.s .r) (.a .o .q) (n:=5)<| .g (.s (.a (.a .p (.k 5)) (.m 5 .r))) (.k 1000)) rfl A.1 I ao.2.1) (by decide)<|fl (rc 4 rfl) rfl<|l1 (i:=1+eP R (p.1+5+5*k) 2) (ct (.l (.s .p) (.k 2)<| .g (.s (.a .o .p)) (.k 1152921504606846976)) rfl D)<|nT 5 (cg (1+eP R (p.1+5+5*k) 2)) (λ j=> .str (lF.getD (eP R (p.1+5+5*k+1+j) 4) ⟨#[]⟩)) (nS (ct (.l (.s .p) (.k 2)<| .g (.s (.a .o .p)) (.k 1152921504606846976)) rfl D)) (by rw [gy];unfold lim;exact ct (.l (.s .p) (.k 2)<| .g (.a .o .p) (.k 16000000)) rfl D) (λ j aO K' S=>⟨_,rfl,?_⟩) λ b2=> ?_
   ·have bK:=m3 R (p.1+5+5*k+1+j) (m:=4) (by decide)
    exact fw (xs:=eO lF) 5 rfl λ d=>lE Z O (p.1+5+5*k+1+j) 4 (aL Rg) (hC (.l .p (.k 24)<| .l (.s .q) (.k 2) (n:=5)<| .l (.s .r) (.a .o .q) (n:=5)<| .l (.s .t) (.k 2)<| .l (.s .u) (.a .o .t)<| .g (.s (.a (.s (.a (.a .p (.k 5)) (.m 5 .r))) .u)) (.k 1000)) rfl A.1 I ao.2.1 D (fK.mp aO)) (by decide)<|d4 (rc 5 rfl) (bX bK (by decide)) (CK bK)<|j4 [4] [] rfl rfl<|S _
   rw [HI];refine HF 5 [4] rfl (by decide) rfl λ Rh=> ?_
   have pN:s.2.1++(p.2,jV R lG (p.1+1) 2 (eP R p.1 3))::(t.2.1++[jV R lF (p.1+5+5*k+1) 4 (1+eP R (p.1+5+5*k) 2)]).map (p.2,·)=(s.2.1++(p.2,jV R lG (p.1+1) 2 (eP R p.1 3))::t.2.1.map (p.2,·))++[(p.2,jV R lF (p.1+5+5*k+1) 4 (1+eP R (p.1+5+5*k) 2))]:=by simp
   refine g0 4 rfl (by rw [Rd g.2.1.1,cI,f7,cz];have:=g.2.2.1;unfold lim;exact hC (.l .p (.k 5)<| .l (.s .q) (.k 2)<| .e .r .t<| .l (.s .u) (.a .o .q)<| .e .t .u<| .g (.s (.a .p (.s .r))) (.k 16000000)) rfl hlen I g.2.2.1 ao.2.1 ao.2.2) (HG g.2.1.1)<|cK (d0 (_,t.2.1++[jV R lF (p.1+5+5*k+1) 4 (1+eP R (p.1+5+5*k) 2)],t.2.2++[b2]) ⟨g.1.trans (.new Rh),pN▸(g.2.1.push (l:=p.2) (w:=jV R lF (p.1+5+5*k+1) 4 (1+eP R (p.1+5+5*k) 2)) Rh),by rw [cI,cI,g.2.2.1];rfl,λ v K=> ?_⟩) (by rw [pN];rfl) rfl
   rcases c6.mp K with K | K
   ·exact g.2.2.2 v K
   ·rw [b3] at K;subst K;exact ⟨by rw [yv.1];exact ct (.l (.s .p) (.k 2)<| .g (.a .o .p) (.k 2)) rfl D,yv.2⟩
  ·have tx:=g.2.2.1;rw [gy] at tx;have Ri:Part p.2 ((p.2,jV R lG (p.1+1) 2 (eP R p.1 3))::t.2.1.map (p.2,·)):=⟨_,t.2.1,rfl,by rw [hw.1];exact ct (.l (.s .p) (.k 3)<| .g .p (.k 2)) rfl u,hw.2,bD (.f .p (.a .o .q)<| .g (.s (.k 0)) .p) rfl tx,bD (.l (.s .p) (.k 2)<| .e .q (.a .o .p)<| .g .q (.k 2)) rfl I tx,g.2.2.2⟩
   refine cK (b1 (t.1,_,t.2.2) ⟨g.1,g.2.1,λ h=>by simp at h,λ h=> ?_,λ h=> ?_⟩) rfl rfl
   ·rw [cI] at h;rcases A.2 with ⟨J,C⟩ | ⟨J,C⟩
    ·show Part gE (s.2.1++_);rw [aK.2.2.1 J,<- C];exact Ri
    ·exact (fR 0 (ct (.f .p .o<| .e (.s .p) .o<| .g .o (.k 0) (n:=0)) rfl J (h:d.length+1=1))).elim
   ·rw [cI] at h;rcases A.2 with ⟨J,C⟩ | ⟨J,C⟩
    ·exact (fR 0 (ct (.e .p (.k 0)<| .f (.s .p) (.k 2)<| .g .o (.k 0) (n:=0)) rfl J (h:d.length+1=2))).elim
    ·exact ⟨_,_,aK.2.2.2.1 J,C▸Ri,rfl⟩
end
section
variable {W:a0} {P:eg} {r:Nat} {E:ag->Prop} {H:ag} {Q:KE} {g:ak}
section
variable {C:gY} {B:ag} {L:Cells} {k:aJ} {st:aV} {A:du} {K:dK}
theorem afs {p:aJ×aV×du} (q:T C B [] p K):T C B L p K:=λ l H a f=>q l H a ⟨f.1,λ _ _ _ e=>(by cases e),(Fr.nil H).3,(Fr.nil H).4⟩
theorem HM {ei:aw} {N n:Nat} {b:aJ} (f:Nat->Nat×Nat) (a:n<=1000) (d:zV 0 (N+ei.length)=true) (step:∀y,y<n->∀K',(∀A,T ⟨C.W,C.r,C.E,N+ei.length⟩ B [] ([],[h5 (f y)],A) K')->T ⟨C.W,C.r,C.E,N+ei.length⟩ B [] (bb (N+ei.length) b [] ((0,.int (y:Nat))::rT N ei A [])) K')
  (q:T C B [] (bb C.n k (cS ((cg n).map f)::st) A) K):T C B [] (.comp (.one 0) N ei b:: .call e .Aj 1::k,.ic 0 (n:Nat)::st,A) K:=
 nT (c0:=λ n:Nat=> .int n) 0 (cg n) (λ y=>h5 (f y)) (nS (a9 a (by decide))) (by rw [gy];unfold lim;exact bF (a9 a (by decide))) (λ y g K' h=>⟨_,if_pos d,step y (fK.mp g) K' h⟩) λ c=>qa (rc 0 rfl) (by rw [cz,gy];unfold lim;exact bF (a9 a (by decide)))<|afs (by rw [tF,e5] at q;exact q)
theorem Rj {a b:Bool} (q:T C B L (bb C.n k (.bool (!decide (a=b))::st) A) K):T C B L (.cmp .NotEq::k,.bool b:: .bool a::st,A) K:=λ l H z f=>gm.ne (.bool (q.go z f))
theorem Rk {aK M:aS} (q:T C B L (bb C.n k (.bool (decide (aK=M))::st) A) K):T C B L (.cmp .Eq::k,cS M::cS aK::st,A) K:=λ l H z f=>gm.eq (tF aK▸tF M▸.tup ⟨Cc aK,Cc M⟩ (decide_eq_decide.mpr (Jg λ x y h=>Gw h)▸q.go z f))
theorem CL {b:aJ} {p:Bool} (h:p=true) (q:T C B L (bb C.n (b++k) st A) K):T C B L (.gc true b::k,.bool p::st,A) K:=λ l H x f=>by
 subst h;have:=q.go x f;rw [BC] at this;exact iX.bool this
theorem Rl (Z:Base W P) {a:aS} (c:a.length<=100) (d:b.length=a.length) (q:T ⟨W,r+1,E,n⟩ B L (bb n k (.bool (decide (il a b))::st) A) K):T ⟨W,r+1,E,n⟩ B L (.call e .DQ 2::k,cS b::cS a::st,A) K:=
 fm rfl rfl λ l H z f=>OS Z c d λ aa e=>q.go z (f.more e)
theorem Rm (Z:Base W P) {a:aS} (c:a.length<=100) (d:b.length=a.length) (q:T ⟨W,r+1,E,n⟩ B L (bb n k (cS (c3 a b)::st) A) K):T ⟨W,r+1,E,n⟩ B L (.call e .DR 2::k,cS b::cS a::st,A) K:=
 fm rfl rfl λ l H z f=>OU Z c d λ aa e=>q.go z (f.more e)
end
theorem aft (Z:Base W P) {x:ak} {fs:bp->Option ai} (h:H x=some (.inst .hj fs)) (ao:fs .kernel=some (cS K)) (a:K.length<=100) (q:∀aa,Ext H aa->Q (.tup (nats (ar K))) aa):dw W (r+1) .DT [.ref x] H Q E:=
 ZH Z (fN 1 rfl<|bO (aL h) rfl ao<|nT (c0:=h5) 0 K (λ p=> .int (p.1:Nat)) vH (by unfold lim;exact bF (a9 a (by decide))) (λ y d K' b=>⟨_,rfl,b _⟩) λ c=>qa (rc 0 rfl) (by rw [cz];unfold lim;exact bF (a9 a (by decide)))<|e9 λ aa f=>by
  have:=q aa f.1;unfold nats ar at this;rw [e5] at this;exact this)
noncomputable def jw (R:aw) (n:Nat):aS:=(cg n).map λ k=>(3*k,eP R (61+2*k) 32)
noncomputable def kM (R:aw) (n:Nat):aS:=(cg n).map λ k=>(3*k,(eP R (62+2*k) 64/2+7*k)%32)
def HN (a b:aS):Prop:=∀k n,k<a.length->n<a.length->k≠n->(bV a k|||bV b k)&&&(bV a n|||bV b n)=0∨bV a k&&&bV a n≠0∨bV b k&&&bV b n≠0
theorem afu {a b c d:Nat} (J:a&&&c=0) (e:b&&&d=0):(a|||b)&&&(c|||d)=0↔a&&&d=0∧c&&&b=0:=by
 have key:(a|||b)&&&(c|||d)=(a&&&c|||b&&&d)|||((a&&&d)|||(c&&&b)):=by
  refine pC λ i=> ?_;simp only [Ji,hA];cases a.testBit i<;>cases b.testBit i<;>cases c.testBit i<;>cases d.testBit i<;>rfl
 rw [key,J,e,TB,TB];constructor
 ·intro h;refine ⟨pC λ i=> ?_,pC λ i=> ?_⟩<;>
  ·have:=congrArg (Nat.testBit · i) h;simp only [hA,Jj,Bool.or_eq_false_iff] at this ⊢
   first | exact this.1 | exact this.2
 ·rintro ⟨f,g⟩;rw [f,g];rfl
theorem HO {a:aS} (g:b.length=a.length):HN a b↔il a b:=by
 have d:∀k n,((bV a k|||bV b k)&&&(bV a n|||bV b n)=0∨bV a k&&&bV a n≠0∨bV b k&&&bV b n≠0)↔r3 a b k n:=λ k n=>by
  unfold r3
  by_cases J:bV a k&&&bV a n=0
  ·by_cases c:bV b k&&&bV b n=0
   ·rw [afu J c];first | done | simp [J,c]
   ·simp [c]
  ·simp [J]
 constructor
 ·intro h i j J c;exact (d i j).mp (h i j (bX J c) c (e6 J))
 ·intro h k n J c f;rcases Nat.lt_or_gt_of_ne f with e | e
  ·exact (d k n).mpr (h k n e c)
  ·rw [z0 (bV a k|||bV b k),z0 (bV a k),z0 (bV b k)];exact ((d n k).mpr (h n k e J))
theorem afv {a:aS} (c:b.length=a.length):il a b↔il b a:=by
 rw [<- HO c,<- HO c.symm];unfold HN;rw [c];constructor<;>
 ·intro h k n J d e;have:=h k n J d e;rw [uJ (bV a k),uJ (bV a n)] at*;exact this.imp id Or.symm
theorem afw {R:aw} {k:Nat} (h:k<n):fP (jw R n) k=3*k∧bV (jw R n) k=eP R (61+2*k) 32:=by
 simp [fP,bV,jw,h]
theorem afx {R:aw} {k:Nat} (h:k<n):fP (kM R n) k=3*k∧bV (kM R n) k=(eP R (62+2*k) 64/2+7*k)%32:=by
 simp [fP,bV,kM,h]
def CM (a b:aS) (k n:Nat):Prop:=(bV a k|||bV b k)&&&(bV a n|||bV b n)=0∨bV a k&&&bV a n≠0∨bV b k&&&bV b n≠0
theorem afy {C:gY} {k:aJ} {K:dK} {n:Nat} (g:n<=4) {a b:aS} (s:a.length=n) (w:b.length=n) (h0:sel [0,1,3,4,5,6] A=[(0,.ref e7),(1,.int (n:Nat)),(3,cS a),(4,cS b),(5,cS (c3 a b)),(6,.bool true)]) (L:C.n=8)
  (q:T C B [] (bb C.n k [] [(0,.ref e7),(1,.int (n:Nat)),(3,cS a),(4,cS b),(5,cS (c3 a b)),(6,.bool (decide (il a b)))]) K):T C B [] (.each (.one 2) ME::k,[.ic 0 (n:Nat)],A) K:=by
 obtain ⟨W,r,E,N⟩:=C;cases L;have D:(c3 a b).length=n:=by simp [c3,s]
 have F:∀k,k<n->bV (c3 a b) k=(bV a k|||bV b k):=λ k ao=>by simp only [c3,bV,s];simp [ao]
 refine eL (ys:=cg n) (c0:=λ i:Nat=> .int (i:Nat)) [] [0,1,3,4,5,6] (cQ:=λ _ _=>B) (cR:=λ _ _=>[]) (lf:=λ _ (c:Bool)=>[(0,.ref e7),(1,.int (n:Nat)),(3,cS a),(4,cS b),(5,cS (c3 a b)),(6,.bool c)])
  (λ d _ c=>c=true↔∀i∈d,∀m,m<n->i≠m->CM a b i m) true (nS (a9 g (by decide))) rfl rfl h0 ⟨λ _ _ h=>hQ h,λ _=>rfl⟩ (λ d i e c R hd I M _=>⟨_,rfl,?_⟩) λ c I=> ?_
 ·have l:=(hr hd).2.1;refine l1 (a9 g (by decide))<|eL (ys:=cg n) (c0:=λ i:Nat=> .int (i:Nat)) [] [0,1,2,3,4,5,6] (cQ:=λ _ _=>B) (cR:=λ _ _=>[]) (lf:=λ _ (c:Bool)=>[(0,.ref e7),(1,.int (n:Nat)),(2,.int (i:Nat)),(3,cS a),(4,cS b),(5,cS (c3 a b)),(6,.bool c)])
   (λ d _ O=>O=true↔c=true∧∀m∈d,i≠m->CM a b i m) c (nS (a9 g (by decide))) rfl rfl rfl ⟨λ h=>⟨h,λ _ h=>hQ h⟩,λ h=>h.1⟩ (λ P j v o S Q aK t _=>⟨_,rfl,?_⟩) λ o aK=>cK (M o (aK.trans ⟨λ h k ao m f G=> ?_,λ h=>⟨I.mpr λ k ao=>h k (f9 _ ao),λ m f=>h i (by simp) m (fK.mp f)⟩⟩)) rfl rfl
  ·have p:=(hr Q).2.1;have same:(i=j∨CM a b i j)->(o=true↔c=true∧∀m∈P++[j],i≠m->CM a b i m):=λ h=>aK.trans ⟨λ u=>⟨u.1,λ m f H=>(c6.mp f).elim (λ f=>u.2 m f H) λ f=>by
    rw [b3] at f;subst f;exact h.resolve_left H⟩,λ u=>⟨u.1,λ m f=>u.2 m (f9 _ f)⟩⟩
   refine iM (λ x=>cK (t o (same (.inl (fU x)))) rfl rfl) λ x=>jp (bx l (bE D.symm)) (bX (bx l g) (by decide))<|jp (bx p (bE D.symm)) (bX (bx p g) (by decide))<|rO ?_
   rw [F i l,F j p];refine iM (λ v=>cK (t o (same (.inr (.inl (fU v))))) rfl rfl) λ v=>jp (bx l (bE s.symm)) (bX (bx l g) (by decide))<|jp (bx p (bE s.symm)) (bX (bx p g) (by decide))<|rO<|fv (λ y=> ?_) λ y=>cK (t o (same (.inr (.inr (.inl λ h=>y (congrArg ml h)))))) rfl rfl
   refine jp (bx l (bE w.symm)) (bX (bx l g) (by decide))<|jp (bx p (bE w.symm)) (bX (bx p g) (by decide))<|rO<|fv (λ z=>cK (t false ⟨λ h=>(by cases h),λ h=> ?_⟩) rfl rfl) λ z=>cK (t o (same (.inr (.inr (.inr λ h=>z (congrArg ml h)))))) rfl rfl
   rcases h.2 j (by simp) λ h=>x (congrArg ml h) with h | h | h
   ·exact absurd (congrArg ml h) v
   ·exact absurd (fU y) h
   ·exact absurd (fU z) h
  ·rcases c6.mp ao with ao | ao
   ·exact I.mp h.1 k ao m f G
   ·rw [b3] at ao;subst ao;exact h.2 m (fK.mpr f) G
 ·have aI:c=decide (il a b):=by
   have:c=true↔il a b:=by
    rw [I,<- HO (w.trans s.symm)];unfold HN;rw [s];exact ⟨λ h k m J=>h k (fK.mpr J) m,λ h k J m=>h k m (fK.mp J)⟩
   by_cases h:il a b
   ·rw [decide_eq_true h,this.mpr h]
   ·rw [decide_eq_false h];cases c
    ·rfl
    ·exact absurd (this.mp rfl) h
  exact aI▸q
theorem afz (Z:Base W P) {R:aw} (O:CH R) (j:H e7=some (.list (nats R))) (q:∀aa,Ext H aa->Q (.bool true) aa):dw W (r+2) .Jt [.ref e7] H Q E:=by
 refine ZI Z (fN 8 rfl<|lE Z O 60 4 (aL j) (by decide) (by decide) ?_)
 have c:=m3 R 60 (m:=4) (by decide)
 generalize eP R 60 4=s at c;refine l1 (i:=1+s) (ct (.l (.s .p) (.k 4)<| .g (.s (.a .o .p)) (.k 1152921504606846976)) rfl c)<|HM (n:=1+s) (λ k=>(3*k,eP R (61+2*k) 32)) (ct (.l (.s .p) (.k 4)<| .g (.a .o .p) (.k 1000)) rfl c) rfl (λ k ao K' g=>t9 3 k (by decide) (bD (.l (.s .p) (.k 4)<| .l (.s .q) (.a .o .p)<| .g (.s .q) (.k 1000000000)) rfl c ao)<|t9 2 k (by decide) (bD (.l (.s .p) (.k 4)<| .l (.s .q) (.a .o .p)<| .g (.s .q) (.k 1000000000)) rfl c ao)<|lE Z O (61+2*k) 32 (aL j) (bD (.l (.s .p) (.k 4) (n:=2)<| .l (.s .q) (.a .o .p) (n:=2)<| .g (.s (.a (.k 61) (.m 2 .q))) (.k 1000)) rfl c ao) (by decide)<|g _)<|
  l1 (i:=1+s) (ct (.l (.s .p) (.k 4)<| .g (.s (.a .o .p)) (.k 1152921504606846976)) rfl c)<|HM (n:=1+s) (λ k=>(3*k,(eP R (62+2*k) 64/2+7*k)%32)) (ct (.l (.s .p) (.k 4)<| .g (.a .o .p) (.k 1000)) rfl c) rfl (λ k ao K' g=>t9 3 k (by decide) (bD (.l (.s .p) (.k 4)<| .l (.s .q) (.a .o .p)<| .g (.s .q) (.k 1000000000)) rfl c ao)<|t9 2 k (by decide) (bD (.l (.s .p) (.k 4)<| .l (.s .q) (.a .o .p)<| .g (.s .q) (.k 1000000000)) rfl c ao)<|lE Z O (62+2*k) 64 (aL j) (bD (.l (.s .p) (.k 4) (n:=2)<| .l (.s .q) (.a .o .p) (n:=2)<| .g (.s (.a (.k 62) (.m 2 .q))) (.k 1000)) rfl c ao) (by decide)<|HD _ 2 (by decide) (by decide)<|t9 7 k (by decide) (bD (.l (.s .p) (.k 4)<| .l (.s .q) (.a .o .p)<| .g (.s .q) (.k 1000000000)) rfl c ao)<|HE (eP R (62+2*k) 64/2+7*k) 32 (by decide)<|g _) ?_
 have d:(jw R (1+s)).length=1+s:=by simp [jw]
 have e:(kM R (1+s)).length=1+s:=by simp [kM]
 have o:∀k,k<1+s->fP (jw R (1+s)) k=fP (kM R (1+s)) k:=λ k ao=>by rw [(afw ao).1,(afx ao).1]
 have l:c3 (jw R (1+s)) (kM R (1+s))=(cg (1+s)).map λ k=>(fP (jw R (1+s)) k,bV (jw R (1+s)) k|||bV (kM R (1+s)) k):=by unfold c3;rw [d]
 refine l1 (i:=1+s) (ct (.l (.s .p) (.k 4)<| .g (.s (.a .o .p)) (.k 1152921504606846976)) rfl c)<|HM (n:=1+s) (λ k=>(fP (jw R (1+s)) k,bV (jw R (1+s)) k|||bV (kM R (1+s)) k)) (ct (.l (.s .p) (.k 4)<| .g (.a .o .p) (.k 1000)) rfl c) rfl (λ k ao K' g=>OQ (X:=jw R (1+s)) (bx ao (bE d.symm)) (bD (.l (.s .p) (.k 4)<| .l (.s .q) (.a .o .p)<| .g (.s .q) (.k 1000)) rfl c ao)<|jp (X:=jw R (1+s)) (bx ao (bE d.symm)) (bD (.l (.s .p) (.k 4)<| .l (.s .q) (.a .o .p)<| .g (.s .q) (.k 1000)) rfl c ao)<|jp (X:=kM R (1+s)) (bx ao (bE e.symm)) (bD (.l (.s .p) (.k 4)<| .l (.s .q) (.a .o .p)<| .g (.s .q) (.k 1000)) rfl c ao)<|oT<|g _) ?_;rw [<- l];refine l1 (i:=1+s) (ct (.l (.s .p) (.k 4)<| .g (.s (.a .o .p)) (.k 1152921504606846976)) rfl c)<|afy (n:=1+s) (a:=jw R (1+s)) (b:=kM R (1+s)) (ct (.l (.s .p) (.k 4)<| .g (.a .o .p) (.k 4)) rfl c) d e rfl rfl ?_;exact Rl Z (bD (.l (.s .p) (.k 4)<| .e .q (.a .o .p)<| .g .q (.k 100)) rfl c d) (e.trans d.symm)<|Rj<|iM (λ _=>Rl Z (bD (.l (.s .p) (.k 4)<| .e .q (.a .o .p)<| .g .q (.k 100)) rfl c e) (d.trans e.symm)<|Rj<|iM (λ _=>Rm Z (bD (.l (.s .p) (.k 4)<| .e .q (.a .o .p)<| .g .q (.k 100)) rfl c d) (e.trans d.symm)<|Rk<|CL (decide_eq_true rfl)<|Rm Z (bD (.l (.s .p) (.k 4)<| .e .q (.a .o .p)<| .g .q (.k 100)) rfl c e) (d.trans e.symm)<|Rk<|e9 λ aa f=>by rw [decide_eq_true (QM (by simp [ar,jw,kM]:ar (jw R (1+s))=ar (kM R (1+s))).symm)];exact q aa f.1) λ h=>absurd (decide_eq_decide.mpr (afv (e.trans d.symm)).symm:decide (il (kM R (1+s)) (jw R (1+s)))=decide (il (jw R (1+s)) (kM R (1+s)))) h) λ h=>absurd rfl h
end
section
variable {W:a0} {P:eg} {r:Nat} {E:ag->Prop} {H:ag} {Q:KE} {g:ak} {G:au}
theorem ub (l:aw):∀y∈nats l,d1 4 y:=λ y a=>by
 obtain ⟨p,_,rfl⟩:=bH.mp a;exact .int
section
variable {C:gY} {B:ag} {L:Cells} {k:aJ} {st:aV} {A:du} {K:dK} {x y:ak} {l:aw} {e:Bool}
theorem Rq (h:dD B L x (.list (nats l))) (a:dD B L y (.list (nats l))) (q:T C B L (bb C.n k (.bool true::st) A) K):T C B L (.cmp .Eq::k,.ref y:: .ref x::st,A) K:=λ a7 H z f=>gm.eq (.list (h H f) (a H f) ⟨ub l,ub l⟩ ((decide_eq_true (rfl:nats l=nats l)).symm▸q.go z f))
theorem Rr (q:T C B L (bb C.n k (.bool false::st) A) K):T C B L (.cmp .NotEq::k,.tup (nats l):: .tup (nats l)::st,A) K:=λ a7 H z f=>gm.ne (.tup ⟨ub l,ub l⟩ ((decide_eq_true (rfl:nats l=nats l)).symm▸q.go z f))
theorem afA (d:(ar es).Nodup) (h:dD B L x (.dict .int (dJ es))) (a:dD B L y (.dict .int (dJ es))) (q:T C B L (bb C.n k (.bool true::st) A) K):T C B L (.cmp .Eq::k,.ref y:: .ref x::st,A) K:=λ a7 H z f=>by
 have b:∀e∈dJ es,∃i,e.2= .int i:=λ e c=>by
  obtain ⟨p,_,rfl⟩:=bH.mp c;exact ⟨_,rfl⟩
 exact gm.eq (.dict (h H f) (a H f) b (q.go z f))
theorem afB {ys:aV} (m:Nat) (g:l.length<=60) (d:l.Pairwise (·< ·)) (i:nats l=ys) (q:∀c,T C B ((m,c,.list ys)::L) (bb C.n k (.ref c::st) A) K):T C B L (.call e .sL 1::k,.tup (nats l)::st,A) K:=jl rfl rfl λ a7 H z f=>by
 subst i;have es:(nats l).mergeSort gB=nats l:=by rw [qm];exact congrArg nats (Ck d)
 refine .J4 ((eu l).symm▸g) ⟨.inl λ x j=> ?_,?_⟩ λ c aI=>by rw [es];exact (q c).go z (f.new m aI)
 ·obtain ⟨n,_,rfl⟩:=bH.mp j;exact ⟨_,rfl⟩
 ·rw [(by simp [nats,JP,wU]:(nats l).map cx=l.map λ n=>((n:Nat):Int))]
  exact DG _ (λ a b h=>by simp at h ⊢;exact λ z=>iP _ (bx h (bE (fU z).symm))) d
theorem Rt (Z:Base W P) {fs:bp->Option ai} {M:aS} (h:B x=some (.inst .hj fs)) (ao:fs .kernel=some (cS M)) (a:M.length<=100) (q:T ⟨W,r+1,E,n⟩ B L (bb n k (.tup (nats (ar M))::st) A) K):T ⟨W,r+1,E,n⟩ B L (.call e .DT 1::k,.ref x::st,A) K:=
 fm rfl rfl λ l H z f=>aft Z (f.1 _ _ h) ao a λ aa e=>q.go z (f.more e)
end
theorem ze (es:aS):(dJ es).map (·.1)=es.map λ p=> .int (p.1:Nat):=by unfold dJ;rw [e5];rfl
theorem afC (Z:Base W P) (O:G.Ok) (x:dS H g G) (A:ez H aA S) (cl:c1 G G.bN G.bR S.aU S.items) (I:S.bP=G.dv S.items) (s:S.r2=ea (ar S.bP)) (t:ar S.moves=G.syms S.items)
  (u:fQ G S.aU) (ao:∀p∈S.aU,br S.items p.1=some p.2) (q:∀aa,Ext H aa->Q (.bool true) aa):dw W (r+2) .DU [.ref aA.x,.ref g] H Q E:=by
 have T:=O.5;have gV:=O.3;have a:=u.len O;have i:∀p∈S.items,p.1<G.N:=λ p j=>(cl.4 p.1 p.2 (ew cl.1 j)).1;have w:S.moves.length<=12:=by
  have J:=yI O i;rw [<- t,f3] at J;exact J
 have y:∀d:aS,(∀p∈d,p∈S.items)->(ar (G.dv d)).Nodup∧(G.dv d).length<=20:=λ d h=>by
  have aD:=Gv (G:=G) d λ q k=>i q (h q k);have:=jM _ _ aD.1 aD.2;rw [f3] at this;exact ⟨aD.1,bB this gV⟩
 refine A.1.elim λ fs F=>x.BL.elim λ U V em R=> ?_;refine ZJ Z (fN 5 rfl<|BW A<|Rt Z F.1 F.2.2.1 (bF (a9 a (by decide)))<|afB 5 (by rw [f3];exact bF (a9 a (by decide))) u.1 (e5 ..) λ c=>nT (c0:=λ p:Nat×Nat=> .int (p.1:Nat)) 6 S.aU h5 (ym (rc 5 rfl) λ H f=>f.get 5 rfl) (by unfold lim;exact bF (a9 a (by decide))) (λ p j K' K=>⟨_,rfl,tH A<|hZ (v:= .int (p.2:Nat)) (aL A.2) ⟨_,rfl⟩ (by rw [h1,ao p j];rfl)<|K _⟩) λ c=>qa (rc 6 rfl) (by rw [cz];unfold lim;exact bF (a9 a (by decide)))<|PP<|iM (λ _=> ?_) λ h=>absurd rfl h)
 refine yB A<|Rt Z F.1 F.2.2.1 (bF (a9 a (by decide)))<|Rr<|nQ rfl<|lh 3 .int λ z=>tH A<|eL (ys:=S.items) (c0:=λ p:Nat×Nat=> .int (p.1:Nat)) [3] [0,1,3] (cQ:=λ _ _=>H) (cR:=λ d _=>[(3,z,.dict .int (dJ (G.dv d)))]) (lf:=λ _ _=>[(0,.ref aA.x),(1,.ref g),(3,.ref z)])
  (λ _ _ (_:Unit)=>True) () (tC (aL A.2) (ze _) λ _ _=>aL A.2) rfl rfl rfl trivial (λ d p e _ X hd _ l _=>⟨_,rfl,?_⟩) λ _ _=> ?_
 ·have B:p∈S.items:=by rw [hd];simp
  have b:=i p B;have o:=au.jK b;have L:=(y d λ q k=>by rw [hd];exact f9 _ k).2
  have skip:¬(0<G.own p.1/\ G.cC p.1=none)->G.dv (d++[p])=G.dv d:=λ h=>by rw [yD,if_neg h]
  refine jm x<|BK Z O x b<|fv (λ J=> ?_) λ J=>cK (l () trivial) (by rw [skip λ h=>J (hx.mpr h.1)];rfl) rfl
  refine (R.2.2.2 _ o.1).elim λ e7 Y r=> ?_;have M:G.cC p.1=none->(G.dot p.1:Int)=((G.right (G.own p.1)).length:Nat):=λ h=>by
   unfold au.cC at h;exact congrArg ml (dg (au.yq b).1 (TC.mp h))
  refine jm x<|Ga Z O x b<|bO (aL R.1) rfl R.2.1<|d4 (v:= .ref e7) (aL R.2.2.1) (by exact bX (bx o.1 gV) (by decide)) (by rw [ff,DC o.1,DE,r.1])<|bO (aL r.2.1) rfl r.2.2.2.2<|yj (eu _) (by unfold lim;exact bF (a9 (BR O o.1) (by decide)))<|fv (λ n=> ?_) λ n=>cK (l () trivial) (by rw [skip λ h=>n (M h.2)];rfl) rfl
  ·have N:G.cC p.1=none:=by unfold au.cC;rw [fU n];exact qD (dn _)
   exact tH A<|hZ (v:= .int (p.2:Nat)) (aL A.2) ⟨_,rfl⟩ (by rw [h1,ew cl.1 B];rfl)<|oU 3 rfl ⟨_,rfl⟩ (by rw [j7];unfold lim;exact a9 L (by decide)) (qg ..)<|cK (l () trivial) (by rw [yD,if_pos ⟨hx.mp J,N⟩];rfl) rfl
 ·have m:=y S.items λ _ h=>h;have C:=A.4;have D:=A.5;rw [I] at s C;rw [s] at D;refine OO A<|afA m.1 (aL C) (rc 3 rfl)<|CL rfl<|acK A<|qb (ys:=nats (ea (ar (G.dv S.items)))) 5 (rc 3 rfl) (by rw [j7];exact bF (a9 m.2 (by decide))) (by rw [oZ,qm];rfl) λ c=>Rq (aL D) (rc 5 rfl)<|CL rfl<|yC A<|F3 (xs:=nats (ar S.moves)) 6 (aL A.3) (by rw [j7];unfold lim;exact bF (a9 w (by decide))) (oZ _) λ c=>yC A<|qb (ys:=nats (ar S.moves)) 7 (aL A.3) (by rw [j7];exact bF (a9 w (by decide))) (by rw [oZ,qm];exact congrArg nats (Ck (by rw [t];exact vS _))) λ c=>Rq (rc 6 rfl) (rc 7 rfl)<|e9 λ aa f=>q aa f.1
end
section
variable {G:au}
theorem CO:∀l∈h8,l∈lD:=λ l h=>(Hw l h).2.2.2.2.2
theorem zg:(∀l∈lD,l∉ke/\ l≠bj "$accept")/\ (bj "$accept")∉ke:=by decide+kernel
theorem Rv {ls al:bZ}:∀(L:SL),(∀p∈L,∀x∈p.2,x∈al)->(eA ls L).Nodup∧(∀x∈eA ls L,x∈ke∨x∈al∧x∉ls)∧∃t,eA ls L=ke++t:=by
 have k:∀(l ns:bZ),(∀x∈l,x∈al)->(ns.Nodup∧(∀x∈ns,x∈ke∨x∈al∧x∉ls)∧∃t,ns=ke++t)->((l.foldl (gh ls) ns).Nodup∧(∀x∈l.foldl (gh ls) ns,x∈ke∨x∈al∧x∉ls)∧∃t,l.foldl (gh ls) ns=ke++t):=by
  intro l
  induction l with
  | nil=>intro ns _ h;exact h
  | cons y l ih=>
   intro ns d ⟨J,f,t,g⟩;rw [uz];refine ih _ (λ x c=>d x (.tail _ c)) ?_;unfold gh
   split
   ·rename_i i;refine ⟨?_,λ x c=> ?_,t++[y],by rw [g,jy]⟩
    ·rw [gx];exact ⟨J,by simp,λ a m b j=>by simp at j;subst j;rintro rfl;exact i.2 m⟩
    ·rcases c6.mp c with c | c
     ·exact f x c
     ·rw [b3] at c;subst c;exact .inr ⟨d x (.head _),i.1⟩
   ·exact ⟨J,f,t,g⟩
 refine lq (λ _=>⟨show ke.Nodup by decide+kernel,λ x c=> .inl c,[],by simp [eA]⟩) λ L p ih h=> ?_
 have e:eA ls (L++[p])=p.2.foldl (gh ls) (eA ls L):=by unfold eA;rw [ki];rfl
 rw [e];exact k _ _ (λ x c=>h p (by simp) x c) (ih λ q n=>h q (f9 _ n))
theorem Rw {α:Type} [DecidableEq α] {l m:List α} (h:l.Nodup) (a:∀x∈l,x∈m):l.length<=m.length:=h.length_le_of_subset a
noncomputable abbrev Rx (L:SL):Prop:=eT (3<=(eA (cN L) L).length) ((eA (cN L) L).length+(cN L).length<=9) ((fC L).Nodup) (∀l∈cN L,l∈h8) ((fC L)[(eA (cN L) L).length]? =some (bj "$accept")) (∀i,i<3->(fC L)[i]? =ke[i]?)
theorem Ry (h:t6 L):Rx L:=by
 have g:=zb h.3;have j:=Rv (ls:=cN L) (al:=lD) L λ p n=>(h.4 p n).2;obtain ⟨t,k⟩:=j.2.2;have t2:=j.2.1;have l:∀a∈eA (cN L) L,∀b∈cN L,a≠b:=λ a c b f e=>by
  subst e;rcases t2 a c with h | h
  ·exact (zg.1 a (CO a (g.1 a f))).1 h
  ·exact h.2 f
 have o:∀x∈eA (cN L) L,x≠bj "$accept":=λ x d=>by
  rcases t2 x d with h | h
  ·rintro rfl;exact zg.2 h
  ·exact (zg.1 x h.1).2
 refine ⟨by rw [k,cI];exact fJ _ _,?_,?_,g.1,?_,λ i q=> ?_⟩
 ·have:=Rw (gx.mpr ⟨j.1,g.2,l⟩:(eA (cN L) L++cN L).Nodup) (m:=ke++lD) λ x d=>by
   rcases c6.mp d with d | d
   ·rcases t2 x d with h | h
    ·exact f9 _ h
    ·exact ix _ h.1
   ·exact ix _ (CO x (g.1 x d))
  rw [cI] at this;exact this
 ·unfold fC;rw [gx,gx];refine ⟨⟨j.1,by simp,λ a c b f=> ?_⟩,g.2,λ a c b f=> ?_⟩
  ·rw [b3] at f;subst f;exact o a c
  ·rcases c6.mp c with c | c
   ·exact l a c b f
   ·rw [b3] at c;subst c;exact λ e=>(λ x d=>(zg.1 x (CO x (g.1 x d))).2:∀x∈cN L,x≠bj "$accept") b f e.symm
 ·unfold fC;rw [jY (by simp),jA (dn _)];simp
 ·unfold fC;rw [k,jy,jy,jY (q)]
theorem zh (h:x∈l):l.idxOf x<l.length∧l[l.idxOf x]? =some x:=by
 have J:=List.idxOf_lt_length_of_mem h;exact ⟨J,by rw [c4 J,List.getElem_idxOf J]⟩
theorem HQ (N:Rx L) (h:x∈fC L) (d:x∈lD):3<=(fC L).idxOf x∧(fC L).idxOf x≠(eH L).t∧(fC L).idxOf x<(eH L).n:=by
 have b:=zh h;have a:=b.2;have c:=zg.1 x d;refine ⟨?_,λ e=> ?_,b.1⟩
 ·refine fD λ bK=> ?_;rw [N.6 _ bK] at a;exact c.1 (cY a)
 ·rw [e] at a;have:=N.5;change (fC L)[(eH L).t]? =_ at this;rw [this] at a;injection a with a;exact c.2 a.symm
theorem afD (c:Nat):∀(rs:List (Nat×aw)) (k:Nat),(∀x∈rs,x.2.length<=c)->(j5 k rs).length<=rs.length*(c+1):=by
 intro rs
 induction rs with
 | nil=>
  intro _ _;simp [l2,qd]
 | cons x rs ih=>
  intro k h;rw [l2,cI,mn,f7,zX];exact eZ (.l .p .q<| .l .r .t<| .g (.a (.s .r) .p) (.a .q (.s .t))) rfl (ih (k+1) λ y a=>h y (.tail _ a)) (h x (.head _))
theorem afE (h:t6 L):(cN L).headD ⟨#[]⟩∈lD∧(cN L).headD ⟨#[]⟩∈fC L:=by
 have b:(cN L).headD ⟨#[]⟩∈cN L:=by
  obtain ⟨p,c⟩:∃p,p∈L:=by cases L with | nil=>exact absurd h.1 (by decide) | cons p L=>exact ⟨p,.head _⟩
  have:=HA L p c;cases d:cN L with
  | nil=>rw [d] at this;cases this
  | cons a l=>exact .head _
 exact ⟨CO _ ((zb h.3).1 _ b),ix _ b⟩
noncomputable abbrev wb (G:au):Prop:=gR (G.Ok) (∃X,G.right 0=[X,0]∧X≠0) (∀r,r<G.R->G.left 0∉G.right r)
theorem HR (h:t6 L):wb (eH L):=by
 have N:=Ry h;have f:=afE h;have aD:=HQ N f.2 f.1;have e:(eH L).n=(eA (cN L) L).length+1+(cN L).length:=by simp [eH,fC];exact dg (bD (.g (.a .p (.s .q)) (.a (.s .p) .q)) rfl) (bD (.g (.a (.s .p) .q) (.a .p (.s .q))) rfl)
 have b8:(eH L).t=(eA (cN L) L).length:=rfl;have gV:=Hz L;have g:=h.2;have rule:∀r,r<(eH L).R->r=0∨dB λ i p=>r=i+1∧L[i]? =some p:=λ r c=>by
  cases r with
  | zero=>exact .inl rfl
  | succ i=>
   have:i<L.length:=by rw [gV] at c;exact sC c
   exact .inr ⟨i,L[i],rfl,c4 this⟩
 refine ⟨⟨eZ (.f .p (.a (.s .q) .r)<| .e .t .q<| .g .t .p) rfl e b8,ci (.e .p (.a (.s .q) .r)<| .l (.a .q .r) (.k 9)<| .g .p (.k 12)) rfl e N.2,bD (.e .p (.s .q)<| .l .q (.k 9)<| .g .p (.k 20)) rfl gV g,bD (.f .p (.s .q)<| .g (.s (.k 0)) .p) rfl gV,?_,λ r c=> ?_,λ r c s a=> ?_⟩,⟨_,(t7 L).2,m7 (bx (by decide) aD.1)⟩,λ r c=> ?_⟩
 ·have:∀x∈(eH L).rules,x.2.length<=3:=λ x d=>by
   rcases dZ.mp d with rfl | d
   ·exact (by decide:2<=3)
   ·obtain ⟨p,b,rfl⟩:=bH.mp d;rw [cz];exact (h.4 p b).1
  have J:=afD 3 (eH L).rules 0 this;have k:(eH L).rules.length=(eH L).R:=rfl;unfold au.N au.rV;exact eZ (.l .p (.w 4 .q)<| .e .q .r (n:=4)<| .e .r (.s .t) (n:=4)<| .l .t (.k 9) (n:=4)<| .g .p (.k 50)) rfl J k gV g
 ·rcases rule r c with rfl | ⟨i,p,rfl,b⟩
  ·rw [(t7 L).1];exact eZ (.f .p (.a (.s .q) .r)<| .e .t .q<| .g (.s .t) .p) rfl e b8
  ·rw [(v9 b).1];exact (zh (zc (cY b)).1).1
 ·rcases rule r c with rfl | ⟨i,p,rfl,b⟩
  ·rw [(t7 L).2] at a;rcases dZ.mp a with rfl | a
   ·exact aD.2.2
   ·rw [b3] at a;exact a9 (bB (bE a) (dz _)) aD.2.2
  ·rw [(v9 b).2] at a;obtain ⟨x,d,rfl⟩:=bH.mp a;exact (zh ((zc (cY b)).2 x d)).1
 ·rw [(t7 L).1];intro a;rcases rule r c with rfl | ⟨i,p,rfl,b⟩
  ·rw [(t7 L).2] at a;rcases dZ.mp a with J | a
   ·exact aD.2.1 J.symm
   ·rw [b3] at a;exact iP _ (bx (bx (a9 (bE a) (by decide)) N.1) (bE b8.symm))
  ·rw [(v9 b).2] at a;obtain ⟨x,d,J⟩:=bH.mp a;have j:=cY b;exact (HQ N ((zc j).2 x d) ((h.4 p j).2 x d)).2.1 J
def wc (G:au) (K:aS):Prop:=∀k∈ar K,∀i,i<G.N->¬G.Child i k
theorem afF {s:Nat} (J:r<G.R) (c:s<G.R) (e:G.off r=G.off s):r=s:=by
 have a:=au.kC (d:=0) J (dz _);have b:=au.kC (d:=0) c (dz _);rw [sH] at a b;rw [<- a,<- b,e]
theorem afG (X:wb G):wc G G.dY:=λ k ao i a z=>by
 obtain ⟨b,r,z⟩:=z;have J:=z.1;have d:=z.2.2.1;have e:=z.2.2.2;simp only [au.dY,ar,fe,kU,b3] at ao;have c:=au.tE.mp d;have f:=c.2;have:=afF X.1.4 c.1 (ao.symm.trans e);subst this;subst f;exact X.3 _ (au.jK a).1 (au.qe a J).2.2.2.2
theorem afH (cl:c1 G G.bN G.bR K es) (X:Nat):wc G (G.goto es X):=λ k ao i h z=>by
 obtain ⟨b,r,z⟩:=z;have J:=z.1;have e:=z.2.2.1;have f:=z.2.2.2;obtain ⟨p,g,rfl⟩:=bH.mp ao;obtain ⟨j,a⟩:=mQ.mp g;have c:=au.ll (d:=0) (au.tE.mp e).1 (dz _);rw [sH,<- f,a.1] at c;exact fR 0 (bD (.f .p (.s .q)<| .e .p (.k 0)<| .g .o (.k 0) (n:=0)) rfl ((au.qe ((cl.4 j p.2 (ew cl.1 a.2.1)).1) a.2.2).2.2.2.1) c)
theorem sf.afI (X:wb G) (F:sf G df):sf G λ K=>df K∧wc G K:=
 ⟨⟨⟨F.start,afG X⟩,λ K es h c Y e=>⟨F.goto K es h.1 c Y e,afH c Y⟩,λ l J d=>F.bound l J λ K h=>(d K h).1⟩,
  λ K L a b J d f=>⟨F.c3 K L a.1 b.1 J d f,λ k ao=>a.2 k (by rwa [kH] at ao)⟩⟩
theorem afJ (O:G.Ok) (cl:c1 G G.bN G.bR K es) (g:(ar K).Nodup) (h:wc G K):∀p∈K,br es p.1=some p.2:=λ p e=>by
 have ao:p.1∈ar K:=bH.mpr ⟨p,e,rfl⟩;obtain ⟨m,c⟩:=hh.mp (ey.mpr ((cl.2 p.1).mpr (.base ao)));rw [c];have lt:∀{i},fg G (cm K) i->i<G.N:=λ {i} l=>by
  obtain ⟨m,c⟩:=hh.mp (ey.mpr ((cl.2 i).mpr l));exact (cl.4 i m c).1
 congr 1
 refine pC λ τ=> ?_;rw [Bool.eq_iff_iff,cl.3 _ _ c τ];constructor
 ·intro d;generalize f:p.1=i at d;cases d with
  | base a b=>
   obtain ⟨o,j⟩:=b;subst f;have k:=ew g (show (p.1,p.2)∈K from e);rw [(ew g j.1)] at k;cases k;exact j.2
  | gP a b _=>exact absurd b (h _ (f▸ao) _ (lt a))
  | prop a b _=>exact absurd b (h _ (f▸ao) _ (lt (tT a)))
 ·intro n;exact .base ao ⟨p.2,e,n⟩
theorem wb.afK (X:wb G):∃Y,G.cC 0=some Y∧G.cC 1=some 0∧Y≠0:=by
 obtain ⟨Y,aD⟩:=X.2;have a:=au.kC (d:=0) X.1.4 (dz _);have b:=au.kC (d:=1) X.1.4 (by rw [aD.1];exact sF 1)
 have c:=au.ll (d:=0) X.1.4 (dz _);have d:=au.ll (d:=1) X.1.4 (by rw [aD.1];exact sF 1)
 rw [(mX (G:=G))] at a b c d;refine ⟨Y,?_,?_,aD.2⟩
 ·unfold au.cC;rw [a,c,aD.1];rfl
 ·unfold au.cC;rw [b,d,aD.1];rfl
end
theorem afL:∀o∈zd,(∀p∈cM o.1 o.2.1 o.2.2,p.1∈h8/\ p.2.length<=3/\ ∀x∈p.2,x∈lD):=by decide+kernel
theorem zi:(∀x∈CI,x∈lD)/\ (∀x∈lF,x∈lD)/\ (∀x∈lG,x∈lD)/\ gE∈h8/\ hb∈h8:=by decide+kernel
theorem RA (h:CJ L):t6 L:=by
 obtain ⟨x,y,z,b,h⟩:=h;have h0:=afL _ b;rcases h with rfl | ⟨l,w,c,hw,d,rfl⟩
 ·exact ⟨by simp [cM],by simp [cM],λ p a=>(h0 p a).1,λ p a=>⟨(h0 p a).2.1,(h0 p a).2.2⟩⟩
 ·refine ⟨by simp [cM],by simp [cM],λ p a=> ?_,λ p a=> ?_⟩
  ·rcases c6.mp a with a | a
   ·exact (h0 p a).1
   ·rw [b3] at a;subst a;exact c
  ·rcases c6.mp a with a | a
   ·exact ⟨(h0 p a).2.1,(h0 p a).2.2⟩
   ·rw [b3] at a;subst a;exact ⟨DD hw,λ x h=>zi.1 x (d x h)⟩
noncomputable def HS (al:bZ):List bZ:=[]::(al.map λ a=>[a])++al.flatMap λ a=>al.map λ b=>[a,b]
theorem afM (h:w.length<=2) (d:∀x∈w,x∈al):w∈HS al:=by
 unfold HS;cases w with
 | nil=>simp
 | cons a w=>cases w with
 | nil=>simp [(d a (by simp))]
 | cons b w=>cases w with
 | cons c w=>exact absurd (R4 (R4 h)) (fR _)
 | nil=>
  refine ix _ (nf.mpr ⟨a,(d a (by simp)),bH.mpr ⟨b,(d b (by simp)),rfl⟩⟩)
theorem afN:∀o∈zd,(eH (cM o.1 o.2.1 o.2.2)).t=6/\ (eH (cM o.1 o.2.1 o.2.2)).n=10/\ (eH (cM o.1 o.2.1 o.2.2)).rules=Hs:=by decide+kernel
noncomputable def HT (G:au):Bool:=decide (G.t=6)&&decide (G.n=10)&&decide (G.rules.take 8=Hs)&&decide ((G.rules.drop 8).length=1)&&(G.rules.drop 8).all λ p=>decide (p.1∈[7,8,9])&&decide (p.2∈za)
theorem afO:(zd.all λ o=>h8.all λ l=>(HS CI).all λ w=>HT (eH (cM o.1 o.2.1 o.2.2++[(l,w)])))=true:=by decide+kernel
theorem afP {G:au} (h:HT G=true):dB λ X w=>X∈[7,8,9]∧w∈za∧G=g1 [(X,w)]:=by
 unfold HT at h;simp only [Dr,decide_eq_true_eq] at h;obtain ⟨⟨⟨⟨J,c⟩,d⟩,e⟩,a⟩:=h;obtain ⟨p,hd⟩:=zo.mp e;rw [hd] at a;have a:=d6.mp (kT.mp a p (.head _));refine ⟨p.1,p.2,of_decide_eq_true a.1,of_decide_eq_true a.2,?_⟩;have b:=wF 8 G.rules;rw [d,hd] at b;cases G;simp only at J c b;subst J c;rw [<- b];rfl
theorem afQ (h:CJ L):∃df,sf (eH L) df:=by
 obtain ⟨x,y,z,d,h⟩:=h;rcases h with rfl | ⟨l,w,g,hw,i,rfl⟩
 ·obtain ⟨J,a,b⟩:=afN _ d;have e:eH (cM x y z)=g1 []:=by
   generalize eH (cM x y z)=G at J a b;cases G;simp only at J a b;subst J a b;rfl
  rw [e];exact CB aeT
 ·obtain ⟨X,v,f,c,e⟩:=afP (kT.mp (kT.mp (kT.mp afO _ d) _ g) _ (afM hw i));change eH (cM x y z++[(l,w)])=_ at e;rw [e];simp only [dZ,zm,or_false] at f;rcases f with rfl | rfl | rfl
  ·exact CB (aeU v c)
  ·exact CB (aeV v c)
  ·exact CB (aeW v c)
theorem RB (h:wa L):cN L=[gE,hb]∧∀p∈L,(p.1=gE∨p.1=hb)∧p.2.length<=2∧∀x∈p.2,x∈lF:=by
 have same:∀(l:aW) (vs:List bZ) (ls:bZ),l∈ls->(vs.map λ v=>(l,v)).foldl (λ ls p=>if p.1∈ls then ls else ls++[p.1]) ls=ls:=by
  intro l vs
  induction vs with
  | nil=>intro ls _;rfl
  | cons v vs ih=>intro ls h;rw [fe,uz,if_pos h];exact ih ls h
 have c:∀x∈lG,x∈lF:=by decide+kernel
 obtain ⟨ct,bD,⟨w,d,rfl,a1,a2,bA,cW,e⟩,⟨v,vs,rfl,cM,f,j,k,g⟩,rfl⟩:=h;constructor
 ·unfold cN;have i:R9 (λ ls p=>if p.1∈ls then ls else ls++[p.1]) [] ((gE,w)::d.map λ v=>(gE,v))=[gE]:=by
   rw [uz,if_neg (by simp)]
   exact same gE d _ (by simp)
  rw [ki,i,uz,if_neg (show hb∉[gE] by decide+kernel)]
  exact same hb vs _ (by simp)
 ·intro p a;rcases c6.mp a with a | a
  ·rcases dZ.mp a with rfl | a
   ·exact ⟨.inl rfl,a1,λ x h=>c x (a2 x h)⟩
   ·obtain ⟨u,b,rfl⟩:=bH.mp a;exact ⟨.inl rfl,e u b⟩
  ·rcases dZ.mp a with rfl | a
   ·exact ⟨.inr rfl,cM,λ x h=>c x (f x h)⟩
   ·obtain ⟨u,b,rfl⟩:=bH.mp a;exact ⟨.inr rfl,g u b⟩
theorem HU (h:wa L):t6 L:=by
 obtain ⟨J,b⟩:=RB h;have c:0<L.length∧L.length<=9:=by
  obtain ⟨ct,bD,⟨w,g,rfl,a1,a2,bA,cW,i⟩,⟨v,vs,rfl,cM,j,k,d,l⟩,rfl⟩:=h;simp;exact bD (.l .p (.k 2)<| .l .q (.k 2)<| .g (.a .p (.s .q)) (.k 8)) rfl cW d
 refine ⟨c.1,c.2,λ p a=> ?_,λ p a=>⟨DD (b p a).2.1,λ x f=>zi.2.1 x ((b p a).2.2 x f)⟩⟩;rcases (b p a).1 with e | e
 ·rw [e];exact zi.2.2.2.1
 ·rw [e];exact zi.2.2.2.2
theorem HV (a:l.Nodup) (h:l[i]? =some x):l.idxOf x=i:=by
 obtain ⟨J,b⟩:=zh (cY h);obtain ⟨e,c⟩:=cF.mp h;obtain ⟨f,d⟩:=cF.mp b;exact (qF a).mp (d.trans c.symm)
theorem afR (h:wa L):eN (eH L):=by
 obtain ⟨e,f⟩:=RB h;have g:=HU h;have N:=Ry g;have q:=HR g;have t:(eH L).t=(eA (cN L) L).length:=rfl;have b:fC L=(eA (cN L) L++[bj "$accept"])++[gE,hb]:=by rw [<- e];rfl
 have c:(fC L).idxOf gE=(eH L).t+1:=HV N.3 (by
  rw [t,b,jA (by simp)];simp)
 have j:(fC L).idxOf hb=(eH L).t+2:=HV N.3 (by
  rw [t,b,jA (by simp)];simp)
 have k:=Rv (ls:=cN L) (al:=lF) L λ p h=>(f p h).2.2;have sub:∀x∈eA (cN L) L,x∈ke++lG:=λ x a=>by
  rcases k.2.1 x a with h | ⟨J,l⟩
  ·exact f9 _ h
  ·refine ix _ ?_;rw [e] at l;exact (show ∀x∈lF,x∉[gE,hb]->x∈lG by decide+kernel) x J l
 refine ⟨q.1,Rw k.1 sub,N.1,⟨rfl,?_⟩,λ r h0 m=> ?_⟩
 ·rw [(t7 L).2,<- c,e];rfl
 ·obtain ⟨i,rfl⟩:∃i,r=i+1:=⟨r - 1,dg (bD (.l .p (.s .q)<| .g .p (.s .q)) rfl (sb _ _)) (bD (.l (.s .p) .q<| .g (.s .p) .q) rfl (bE (ef (ct (.l (.s (.k 0)) .p<| .g .o .p) rfl h0))))⟩;rw [Hz] at m;have n:i<L.length:=sC m;obtain ⟨s,u⟩:=v9 (c4 n);have d:=jd n;obtain ⟨dp,eU,hS⟩:=f _ d;rw [s,u];refine ⟨?_,by rw [cz];exact eU,λ X v=> ?_⟩
  ·rcases dp with e | e
   ·left;rw [e,c]
   ·right;rw [e,j]
  ·obtain ⟨x,a,rfl⟩:=bH.mp v;rcases (Q1 (ls:=cN L) L).2 _ d x a with J | J
   ·rw [e] at J;rcases dZ.mp J with rfl | J
    ·exact .inr (.inl c)
    ·rw [b3] at J;subst J;exact .inr (.inr j)
   ·refine .inl ⟨(HQ N ((zc d).2 x a) (zi.2.1 x (hS x a))).1,?_⟩;obtain ⟨o,w⟩:=zh J;have y:(fC L)[(eA (cN L) L).idxOf x]? =some x:=by
     rw [b,jy,jY o];exact w
    rw [HV N.3 y];exact o
theorem afS (h:CJ L∨wa L):t6 L∧wb (eH L)∧∃df,sf (eH L) df:=by
 rcases h with h | h
 ·exact ⟨RA h,HR (RA h),afQ h⟩
 ·exact ⟨HU h,HR (HU h),_,aeK (afR h)⟩
section
variable {G:au} {df:aS->Prop} {aj co:b9}
theorem RE {L:aS} (e:ar K=ar L) {k:Nat} {p:Nat×Nat} (h:K[k]? =some p):∃q,L[k]? =some q∧q.1=p.1∧bV K k=p.2∧bV L k=q.2:=by
 have b:K.length=L.length:=by have:=congrArg gz e;simpa [ar] using this
 have ao:=(cF.mp h).1;have a:L[k]? =some (L[k]'(bx ao (bE b))):=c4 _;generalize L[k]'(bx ao (bE b))=q at a;refine ⟨q,a,?_,by simp [bV,h],by simp [bV,a]⟩
 simpa [ar,h,a] using (by rw [e]:(ar K)[k]? =(ar L)[k]?).symm
theorem afT {L:aS} (s:Sub K L) {τ:Nat} (h:cE K i τ):cE L i τ:=by
 obtain ⟨m,a⟩:=h;obtain ⟨k,ao⟩:=oh a.1;obtain ⟨q,aD⟩:=RE s.1 ao;have b:=s.2 k;rw [aD.2.2.1,aD.2.2.2] at b;refine ⟨q.2,by rw [<- show q.1=i from aD.2.1];exact cY aD.1,?_⟩
 rw [<- b,hA,a.2];rfl
theorem bits_sub {L:aS} (c:(ar L).Nodup) (e:ar K=ar L) (h:∀i τ,cE K i τ->cE L i τ):Sub K L:=by
 refine ⟨e,λ k=> ?_⟩;cases ao:K[k]? with
 | none=>rw [B8 (TC.mp ao),TB]
 | some p=>
  obtain ⟨q,a⟩:=RE e ao;rw [a.2.2.1,a.2.2.2,uJ];refine yu.mp λ τ f=> ?_;obtain ⟨g,d⟩:=h p.1 τ ⟨p.2,cY ao,f⟩;have b:=ew c (show (q.1,q.2)∈L from cY a.1);rw [a.2.1,(ew c d.1)] at b;cases b;exact d.2
theorem RF {L:aS} (s:Sub K L) {τ:Nat} (h:d9 G G.bN G.bR (cm K) (cE K) τ i):d9 G G.bN G.bR (cm L) (cE L) τ i:=by
 rw [<- v3 s.1];exact aee (λ k=>afT s) h
theorem afU {L:aS} (s:Sub K L) (x:c1 G G.bN G.bR K es) (y:c1 G G.bN G.bR L fs) (X:Nat):Sub (G.goto es X) (G.goto fs X):=by
 have b:=lr (G:=G) y.1 X;refine bits_sub (b.imp λ h=>e6 h) (vR (lr (G:=G) x.1 X) b λ i=> ?_) λ i τ h=> ?_
 ·rw [ju x,ju y,v3 s.1]
 ·obtain ⟨j,a⟩:=(kb x).mp h;exact (kb y).mpr ⟨j,a.1,a.2.1,RF s a.2.2⟩
theorem HX {L:aS} (e:ar K=ar L) (x:c1 G G.bN G.bR K es) (y:c1 G G.bN G.bR L fs) (i:Nat):i∈ar es↔i∈ar fs:=by
 rw [x.2,y.2,v3 e]
theorem afV {L:aS} (s:Sub K L) (x:c1 G G.bN G.bR K es) (y:c1 G G.bN G.bR L fs) {v:Nat} (h:br es i=some v):∃u,br fs i=some u∧u|||v=u:=by
 obtain ⟨u,a⟩:=hh.mp (ey.mpr ((HX s.1 x y i).mp (ey.mp (by rw [h];rfl))))
 exact ⟨u,a,yu.mp λ τ b=>(y.3 i u a τ).mpr (RF s ((x.3 i v h τ).mp b))⟩
theorem afW {l m:aw} (e:l.Nodup) (f:m.Nodup) (h:∀i,i∈l↔i∈m):ea l=ea m:=by
 have key:∀{l:aw},l.Nodup->(ea l).Pairwise (·< ·):=λ {l} g=>by
  have a:=IF (le:=λ a b:Nat=>decide (a<=b)) (λ a b c J d=>by simp at*;exact bB J d) (λ a b=>by simp;exact Jd a b) l
  exact (air.mpr ⟨a,((mU l).nodup_iff.mpr g)⟩).imp λ ⟨J,d⟩=>by exact sA (bD (.l .p .q<| .g .p .q) rfl (of_decide_eq_true J)) d
 exact vR (key e) (key f) λ i=>by rw [(mU l).mem_iff,(mU m).mem_iff,h]
theorem afX {L:aS} (e:ar K=ar L) (x:c1 G G.bN G.bR K es) (y:c1 G G.bN G.bR L fs):ea (ar es)=ea (ar fs):=
 afW x.1 y.1 (HX e x y)
theorem HY {L:aS} (e:ar K=ar L) (x:c1 G G.bN G.bR K es) (y:c1 G G.bN G.bR L fs):G.syms es=G.syms fs:=
 have h:=x.r9
 vR h.1 y.r9.1 λ X=>by rw [h.2,y.r9.2,e]
theorem RH (a:i<G.N) (h:G.cC i=none):i=G.off (G.own i)+(G.right (G.own i)).length:=by
 have aD:=au.jK a;unfold au.cC at h;have:=TC.mp h;unfold au.dot at this;exact dg (ci (.l .p (.a .q .r)<| .g .p (.a .q .r)) rfl aD.2.2) (eZ (.l .p .q<| .l (.a .q .r) .t<| .g (.a .r .p) .t) rfl this (bE (ef (bD (.l .p .q<| .g .p .q) rfl aD.2.1))))
theorem HZ:∀(es:aS),(ar es).Nodup->(∀p∈es,p.1<G.N)->∀r m,br (G.dv es) r=some m↔∃i,br es i=some m∧0<G.own i∧G.cC i=none∧G.own i=r:=by
 refine lq (λ _ _ r m=>⟨λ h=>(by cases h),λ z=>z.elim λ i h=>no h.1⟩) λ es p ih d bK r m=> ?_
 have b:(ar es).Nodup∧p.1∉ar es:=by
  simp only [ar,eR,fe,kU,gx] at d;exact ⟨d.1,λ h=>d.2.2 _ h _ (by simp) rfl⟩
 have g:∀q∈es,q.1<G.N:=λ q h=>bK q (f9 _ h);have I:=ih b.1 g r m;have c:∀i,br (es++[p]) i=if i=p.1 then some p.2 else br es i:=λ i=>by
  rw [N8]
  by_cases h:i=p.1
  ·subst h;rw [nW.mpr b.2,if_pos rfl,lm,if_pos rfl];rfl
  ·rw [if_neg h,lm,if_neg (λ e=>h e.symm),N7,ahZ]
 rw [yD]
 split
 ·rename_i aI;rw [oX]
  split
  ·rename_i f;subst f;constructor
   ·intro h;cases h;exact ⟨p.1,by rw [c,if_pos rfl],aI.1,aI.2,rfl⟩
   ·rintro ⟨i,J,n,j,k⟩;rw [c] at J
    split at J
    ·exact J
    ·rename_i l;have a:=RH (g _ (g4 J)) j;rw [k] at a;exact absurd (a.trans (RH (bK p (by simp)) aI.2).symm) l
  ·rename_i f;rw [I];refine exists_congr λ i=> ?_;rw [c]
   by_cases h:i=p.1
   ·subst h;rw [nW.mpr b.2];exact ⟨λ h=>(by cases h.1),λ h=>absurd h.2.2.2.symm f⟩
   ·rw [if_neg h]
 ·rename_i aI;rw [I];refine exists_congr λ i=> ?_;rw [c]
  by_cases h:i=p.1
  ·subst h;rw [nW.mpr b.2];exact ⟨λ h=>(by cases h.1),λ h=>absurd ⟨h.2.1,h.2.2.1⟩ aI⟩
  ·rw [if_neg h]
theorem RI (O:G.Ok) (cl:c1 G G.bN G.bR S.aU S.items) (h:S.bP=G.dv S.items):GN S:=by
 have bK:∀p∈S.items,p.1<G.N:=λ p a=>(cl.4 p.1 p.2 (ew cl.1 a)).1;have b:=Gv S.items bK;refine ⟨by rw [h];exact b.1,?_,λ p a=> ?_⟩
 ·rw [h];have:=jM G.R (ar (G.dv S.items)) b.1 b.2;rw [f3] at this;exact bB this (bB O.3 (by decide))
 ·rw [h] at a;obtain ⟨i,aD⟩:=(HZ S.items cl.1 bK p.1 p.2).mp (ew b.1 a);exact (cl.4 i p.2 aD.1).2
section
variable (C:o7 G df aj aj.length) (P:tR G (Hg G df (Hh aj)) co)
include C
theorem n7 (h:S∈aj):vM G aj S:=by
 obtain ⟨i,a⟩:=oh h;exact C.6 i S a (cF.mp a).1
include P
theorem afY {T:SVal} (a:T∈co) {u:Nat} (b:br T.items i=some u) (g:∀S∈aj,ar S.aU=ar T.aU->∀v,br S.items i=some v->m|||v=m):m|||u=m:=by
 have vg:=(P.4 T a).1;refine yu.mp λ τ h=> ?_;obtain ⟨_,⟨S,c,rfl⟩,e,d⟩:=(P.6.1 T a).2.1.yY ((vg.3 i u b τ).mp h);have oI:=(n7 C c).1;rw [<- v3 e] at d;obtain ⟨v,f⟩:=hh.mp (ey.mpr ((HX e oI vg i).mpr (ey.mp (by rw [b];rfl))))
 exact yu.mpr (g S c e v f) τ ((oI.3 i v f τ).mpr d)
theorem afZ (h:∀S∈aj,¬tL S):∀T∈co,¬tL T:=by
 rintro T k ⟨τ,r,m,o,D,E⟩;have b:=P.4 T k;have q:=HZ T.items b.1.1 (λ p l=>(b.1.4 p.1 p.2 (ew b.1.1 l)).1:∀p∈T.items,p.1<G.N);rw [b.2.1] at o;obtain ⟨i,c⟩:=(q r m).mp o;have s:=(b.1.3 i m c.1 τ).mp D;have n:∀{S:SVal},S∈aj->ar S.aU=ar T.aU->∀{i σ:Nat},0<G.own i->G.cC i=none->d9 G G.bN G.bR (cm T.aU) (cE S.aU) σ i->∃v,br S.bP (G.own i)=some v∧v.testBit σ=true:=λ {S} a e {i σ} h0 F d=>by
  have oI:=(n7 C a).1;rw [<- v3 e] at d;obtain ⟨v,t⟩:=hh.mp (ey.mpr ((oI.2 i).mpr (tT d)));refine ⟨v,?_,(oI.3 i v t σ).mpr d⟩;rw [(n7 C a).2];exact (HZ S.items oI.1 (λ p l=>(oI.4 p.1 p.2 (ew oI.1 l)).1) _ _).mpr ⟨i,t,h0,F,rfl⟩
 rcases E with ⟨u,x,H,y,I⟩ | ao
 ·rw [b.2.1] at y;obtain ⟨j,g⟩:=(q u x).mp y;obtain ⟨_,σ,⟨S,a,rfl⟩,e,J,K⟩:=(P.6.1 T k).2.1.Qa s ((b.1.3 j x g.1 τ).mp I);obtain ⟨v,z⟩:=n a e c.2.1 c.2.2.1 J;have f:=z.1;obtain ⟨w,A⟩:=n a e g.2.1 g.2.2.1 K;have B:=A.1;rw [c.2.2.2] at f;rw [g.2.2.2] at B;exact h S a ⟨σ,r,v,f,z.2,.inl ⟨u,w,H,B,A.2⟩⟩
 ·obtain ⟨_,⟨S,a,rfl⟩,e,d⟩:=(P.6.1 T k).2.1.yY s;obtain ⟨v,aD⟩:=n a e c.2.1 c.2.2.1 d;have f:=aD.1;rw [c.2.2.2] at f;refine h S a ⟨τ,r,v,f,aD.2,.inr ?_⟩;rw [(n7 C a).4,HY e (n7 C a).1 b.1,<- b.2.2.2];exact ao
end
end
section
variable {W:a0} {P:eg} {r:Nat} {E:ag->Prop} {H:ag} {Q:KE} {G:au}
theorem af1 (es:List (ai×ai)) (k v j:ai):cU (es.map λ e=>if e.1=k then (k,v) else e) j=if j=k then (cU es k).map (λ _=>v) else cU es j:=by
 induction es with
 | nil=>simp [cU]
 | cons e es ih=>
  rw [fe,uZ,ih,uZ,uZ]
  by_cases J:e.1=k
  ·rw [if_pos J,if_pos J]
   by_cases a:j=k
   ·subst a;rw [if_pos rfl,if_pos rfl];rfl
   ·rw [if_neg a,if_neg a,if_neg (λ e=>a e.symm),if_neg (λ e=>a (e.symm.trans J))]
  ·rw [if_neg J,if_neg J]
   by_cases a:e.1=j
   ·rw [if_pos a,if_pos a,if_neg (λ e=>J (a.trans e))]
   ·rw [if_neg a,if_neg a]
theorem RL (es:List (ai×ai)) (k v j:ai):cU (hk es k v) j=if j=k then some v else cU es j:=by
 unfold hk
 split
 ·rename_i h;rw [af1]
  split
  ·obtain ⟨x,a⟩:=hh.mp h;rw [a];rfl
  ·rfl
 ·rename_i h;have b:cU es k=none:=by simpa using h
  rw [Gx]
  by_cases e:j=k
  ·subst e;rw [b,if_pos rfl];simp [cU]
  ·rw [if_neg e];have:¬k=j:=λ h=>e h.symm;simp [cU,this]
theorem af2 (es:List (ai×ai)) (k v:ai):(hk es k v).length<=es.length+1:=by
 unfold hk
 split<;>simp
noncomputable def uc (c:aw) (i:Nat):ai:= .tup [.tup (nats c),.int (i:Nat)]
noncomputable def qz:Shape:= .key
theorem CQ (c:aw) (i:Nat):qz.has (uc c i):=⟨_,rfl,kg.mpr ⟨.inr ⟨_,rfl,λ x a=>by obtain ⟨n,_,rfl⟩:=bH.mp a;exact .inl ⟨_,rfl⟩⟩,kg.mpr ⟨.inl ⟨_,rfl⟩,λ _ h=>(by cases h)⟩⟩⟩
noncomputable abbrev qA (es:List (ai×ai)) (a:List (aw×Nat×Nat)):Prop:=gR (∀k v,cU es k=some v->∃m:Nat,v= .int (m:Nat)) (es.length<=a.length) (∀p∈a,∃m:Nat,cU es (uc p.1 p.2.1)=some (.int (m:Nat))∧m|||p.2.2=m)
theorem qA.get {es:List (ai×ai)} {a:List (aw×Nat×Nat)} (x:qA es a) (k:ai):∃m:Nat,(cU es k).getD (.int 0)= .int (m:Nat)∧∀j:Nat,cU es k=some (.int (j:Nat))->j=m:=by
 cases e:cU es k with
 | none=>exact ⟨0,rfl,λ j h=>by cases h⟩
 | some v=>
  obtain ⟨m,rfl⟩:=x.1 k v e;exact ⟨m,rfl,λ j h=>by injection h with h;injection h with h;exact (fU h).symm⟩
theorem qA.step {es:List (ai×ai)} {d:List (aw×Nat×Nat)} (x:qA es d) {c:aw} {v:Nat} (e:∀j:Nat,cU es (uc c i)=some (.int (j:Nat))->j=m):qA (hk es (uc c i) (.int ((m|||v:Nat)))) (d++[(c,i,v)]):=by
 refine ⟨λ k w h=> ?_,?_,λ p a=> ?_⟩
 ·rw [RL] at h
  split at h
  ·cases h;exact ⟨_,rfl⟩
  ·exact x.1 k w h
 ·rw [cI,nd];exact bB (af2 es (uc c i) (.int ((m|||v:Nat)))) (ug x.2)
 ·rw [RL];rcases c6.mp a with a | a
  ·obtain ⟨n,b⟩:=x.3 p a;have J:=b.1
   split
   ·rename_i h;rw [h] at J;have:=e n J;subst this;exact ⟨_,rfl,by rw [DK,uJ v,<- DK,b.2]⟩
   ·exact ⟨n,J,b.2⟩
  ·rw [b3] at a;subst a;rw [if_pos rfl];exact ⟨_,rfl,by rw [DK,DJ]⟩
noncomputable def H0 (S:SVal):List (aw×Nat×Nat):=S.items.map λ p=>(ar S.aU,p.1,p.2)
noncomputable def qB (aj:b9):List (aw×Nat×Nat):=aj.flatMap H0
theorem af3 {aj:b9} (h:∀S∈aj,S.items.length<=50):(qB aj).length<=50*aj.length:=by
 induction aj with
 | nil=>simp [qB]
 | cons S aj ih=>
  have J:=ih λ T a=>h T (.tail _ a);unfold qB at J ⊢;rw [zZ,cI,f7];exact eZ (.l .p (.m 50 .q)<| .l .r (.k 50)<| .e .t .r<| .g (.a .t .p) (.m 50 (.s .q))) rfl J (h S (.head _)) (by simp [H0]:(H0 S).length=S.items.length)
theorem RM {α:Type} {l:List α} {a:α} (h:l[i]? =some a):l.take (i+1)=l.take i++[a]:=by rw [og,h];rfl
theorem CR {α:Type} {d:List α} {a:α}:(d++[a]).length=d.length+1:=cI
theorem af4 {α:Type} {l d e:List α} {a:α} (h:l=d++a::e):l[d.length]? =some a:=by rw [h,jA (dn _),qM];rfl
theorem af5 {k:aJ} {K:dK} {aZ:List ck} (o:∀S∈aj,S.items.length<=50∧(ar S.items).Nodup) (C:aj.length<=2000) {b:ak} (bA:B cZ=some (.list (refs aZ))) (x:eM B aZ aj)
  (q:∀es,qA es (qB aj)->T ⟨W,r,E,22⟩ B [(5,d,.dict qz es)] (bb 22 k [] [(2,.ref g),(3,.ref a),(4,.ref b),(5,.ref d)]) K):
  T ⟨W,r,E,22⟩ B [(5,d,.dict qz [])] (.each (.one 6) MT::k,[.ref cZ],[(2,.ref g),(3,.ref a),(4,.ref b),(5,.ref d)]) K:=by
 have j:=x.1;refine eL (ys:=aZ) (c0:=λ aA:ck=> .ref aA.x) [5] [2,3,4,5] (cQ:=λ _ _=>B) (cR:=λ _ es=>[(5,d,.dict qz es)]) (lf:=λ _ _=>[(2,.ref g),(3,.ref a),(4,.ref b),(5,.ref d)])
  (λ c _ es=>qA es (qB (aj.take c.length))) [] (li (aL bA) λ _ _=>aL bA) rfl rfl rfl ⟨λ k v h=>(by cases h),dn _,λ p D=>(by cases D)⟩ (λ c aA e es L hd M G _=>⟨_,rfl,?_⟩) λ es M=>q es (by rwa [j,zD] at M)
 have t:=af4 hd;have u:=(cF.mp t).1;have i:=c4 (j▸u:c.length<aj.length);generalize aj[c.length]'(j▸u)=S at i;have y:=x.2 _ _ _ t i;have s:=o S (cY i);refine y.1.elim λ fs F=> ?_;have z:=af3 (aj:=aj.take c.length) λ T H=>(o T (Dm H)).1;rw [mj] at z;refine tH y<|eL (ys:=S.items) (c0:=λ p:Nat×Nat=> .int (p.1:Nat)) [5] [2,3,4,5,6] (cQ:=λ _ _=>B) (cR:=λ _ es=>[(5,d,.dict qz es)]) (lf:=λ _ _=>[(2,.ref g),(3,.ref a),(4,.ref b),(5,.ref d),(6,.ref aA.x)])
  (λ l _ es=>qA es (qB (aj.take c.length)++l.map λ p=>(ar S.aU,p.1,p.2))) es (tC (aL y.2) (ze _) λ _ _=>aL y.2) rfl rfl rfl (by rw [kU,h9];exact M) (λ l p N es O A f I _=>⟨_,rfl,?_⟩) λ es f=>cK (G es ?_) rfl rfl
 ·obtain ⟨m,aD⟩:=f.get (uc (ar S.aU) p.1);have J:l.length<50:=by
   have w:=congrArg gz A;rw [cI,f7] at w;exact ci (.f .p (.a .q (.s .r))<| .l .p (.k 50)<| .g (.s .q) (.k 50)) rfl w s.1
  refine yB y<|rP (rc 5 rfl) rfl<|tB (v:= .int (m:Nat)) (rc 5 rfl) (CQ _ _) aD.1<|tH y<|hZ (v:= .int (p.2:Nat)) (aL y.2) ⟨_,rfl⟩ (by rw [h1,(ew s.2 (by rw [A];simp):br S.items p.1=some p.2)];rfl)<|oT<|oU 5 rfl (CQ _ _) (by have:=f.2;rw [cI,cz] at this;unfold lim;exact hC (.l .p (.k 2000) (n:=50)<| .l .q (.m 50 .r)<| .l (.s .t) (.k 50)<| .l .u (.a .q .t)<| .l .r .p (n:=50)<| .g (.s .u) (.k 16000000)) rfl C z J this (wu _ _)) rfl<|cK (I _ ?_) rfl rfl
  rw [eR,<- jy];exact f.step aD.2
 ·rw [CR,RM i];unfold qB at f ⊢;rw [w1,Jl];exact f
end
section
variable {W:a0} {P:eg} {r:Nat} {E:ag->Prop} {H:ag} {Q:KE} {G:au}
noncomputable def wd (n:Nat):ai:= .tup [.int (n:Nat)]
noncomputable def m4 (T:SVal):aw:=if (ar T.aU).length=1 then ar T.aU else []
noncomputable def kN (co:b9):aw:=co.flatMap m4
theorem H2 {T:SVal} {k:Nat} (h:k∈m4 T):ar T.aU=[k]:=by
 unfold m4 at h
 by_cases e:(ar T.aU).length=1
 ·rw [if_pos e] at h;obtain ⟨a,q⟩:=zo.mp e;rw [q] at h ⊢;rw [b3.mp h]
 ·rw [if_neg e] at h;exact hQ h
theorem af6 (T:SVal):(m4 T).length<=1:=by unfold m4;split<;>first | exact bE ‹_› | exact dz _
theorem RN (co:b9):(kN co).length<=co.length:=by
 induction co with
 | nil=>simp [kN]
 | cons T co ih=>
  unfold kN at ih ⊢;rw [zZ,cI,f7];exact ci (.l .p .q<| .l .r .o<| .g (.a .r .p) (.s .q)) rfl ih (af6 T)
theorem af7 (f:tR G cD co):(kN co).Nodup:=by
 have key:∀co:b9,co.Pairwise (λ S T=>∀k,k∈m4 S->k∉m4 T)->(kN co).Nodup:=by
  intro co h
  induction h with
  | nil=>exact C3
  | cons J _ ih=>
   rename_i T co _;unfold kN at ih ⊢;rw [zZ,gx];refine ⟨?_,ih,λ a g b c e=> ?_⟩
   ·unfold m4;split
    ·rename_i e;obtain ⟨a,q⟩:=zo.mp e;rw [q];simp
    ·exact C3
   ·subst e;obtain ⟨U,l,c⟩:=nf.mp c;exact J U l a g c
 refine key co (ahe.mpr λ i j m n o k J p=> ?_);have d:=H2 J;exact iP _ (bx o (bE (f.6.3 i j co[i] co[j] (c4 m) (c4 n) (by have:=congrArg gz d;rw [f3] at this;simpa using this) (d.trans (H2 p).symm)).symm))
section
variable {C:gY} {B:ag} {L:Cells} {k:aJ} {st:aV} {A:du} {K:dK} {e:Bool}
theorem af8 {j:Nat} (q:T C B L (bb C.n k (.int (max i j:Nat)::st) A) K):T C B L (.call e .Jy 2::k,.int (j:Nat):: .int (i:Nat)::st,A) K:=jl rfl rfl λ l H z f=>by
 rw [show ((max i j:Nat):Int)=max ((i:Nat):Int) ((j:Nat):Int) from (Jd i j).elim (λ h=>by rw [aiu h,ahg (mf.mpr h)]) λ h=>by rw [Sy h,ahh (mf.mpr h)]] at q
 exact .max (q.go z f)
theorem af9 (Z:Base W P) (O:G.Ok) (x:dS B g G) (y:ez B aA S) (cl:c1 G G.bN G.bR S.aU S.items) (a:S.bP=G.dv S.items) (b:S.r2=ea (ar S.bP)) (c:ar S.moves=G.syms S.items)
  (d:fQ G S.aU) (ao:∀p∈S.aU,br S.items p.1=some p.2) (q:T ⟨W,r+2,E,n⟩ B L (bb n k (.bool true::st) A) K):T ⟨W,r+2,E,n⟩ B L (.call e .DU 2::k,.ref g:: .ref aA.x::st,A) K:=
 fm rfl rfl λ l H z f=>afC Z O (x.ext f.1) (y.ext f.1) cl a b c d ao λ aa e=>q.go z (f.more e)
end
theorem aga (Z:Base W P) (O:G.Ok) {H:List ck} (l:tR G cD co) (cw:∀T∈co,fQ G T.aU∧wc G T.aU) {k:aJ} {K:dK} {b:ak} {fs:bp->Option ai} (zj:dS B g G) (a1:B b=some (.inst .kW fs)) (a2:fs .sO=some (.ref cZ)) (bA:B cZ=some (.list (refs H))) (x:eM B H co)
  (q:∀f:Nat,f+1=co.length->T ⟨W,r+2,E,22⟩ B [(5,d,o),(10,c,.list ((kN co).map wd))] (bb 22 k [] [(2,.ref g),(3,.ref a),(4,.ref b),(5,.ref d),(9,.int (f:Nat)),(10,.ref c)]) K):
  T ⟨W,r+2,E,22⟩ B [(5,d,o),(10,c,.list [])] (.each (.one 11) MV::k,[.ic 0 (co.length:Nat)],[(2,.ref g),(3,.ref a),(4,.ref b),(5,.ref d),(9,.int ((0:Nat):Int)),(10,.ref c)]) K:=by
 have az:=x.1;refine eL (ys:=cg co.length) (c0:=λ i:Nat=> .int (i:Nat)) [5,10] [2,3,4,5,9,10] (cQ:=λ _ _=>B) (cR:=λ j _=>[(5,d,o),(10,c,.list ((kN (co.take j.length)).map wd))]) (lf:=λ _ (f:Nat)=>[(2,.ref g),(3,.ref a),(4,.ref b),(5,.ref d),(9,.int (f:Nat)),(10,.ref c)])
  (λ j _ f=>f+1=pd ((co.take j.length).flatMap goals)) 0 (nS (a9 l.2 (by decide))) rfl rfl rfl rfl (λ j i e f cV hd b8 b1 _=>⟨_,rfl,?_⟩) λ f b8=> ?_
 ·have s:=hr hd;refine eo λ n=> ?_;obtain ⟨aA,T,w⟩:=x.get s.2.1;have t:=w.2.1;have y:=w.2.2.1;refine n ?_;rw [<- s.2.2] at t;have u:=cY t;have m:=l.4 T u;have z:=(cw T u).1;have I:=RN (co.take j.length);rw [mj] at I;have A:=RM t;have L:kN (co.take (j.length+1))=kN (co.take j.length)++m4 T:=by rw [A];unfold kN;rw [w1,Jl]
  have gp:(ar T.moves).Nodup:=by rw [m.2.2.2];exact (vS _).imp λ h=>e6 h
  have agb:co.flatMap goals=(co.take j.length).flatMap goals++(goals T++(co.drop (j.length+1)).flatMap goals):=by
   conv=>lhs;rw [<- wF (j.length+1) co]
   rw [w1,A,w1,jy,Jl]
  refine y.1.elim λ fj F=> ?_;rw [((l.3 _ T t).trans s.2.2:T.num=i)] at F;have M:∀{iK:Cells} (N:sel [5,10] iK=[(5,d,o),(10,c,.list ((kN (co.take (j.length+1))).map wd))]),Mine.T ⟨W,r+2,E,22⟩ B iK (.each (.one 12) MU::[],[.ref aA.bS],[(6,.ref aA.x),(11,.int (i:Nat)),(2,.ref g),(3,.ref a),(4,.ref b),(5,.ref d),(9,.int (f:Nat)),(10,.ref c)]) cV:=λ {iK} N=>by
   refine eL (ys:=T.moves) (c0:=λ p:Nat×Nat=> .int (p.1:Nat)) [5,10] [2,3,4,5,6,9,10] (cQ:=λ _ _=>B) (cR:=λ _ _=>[(5,d,o),(10,c,.list ((kN (co.take (j.length+1))).map wd))]) (lf:=λ _ (f:Nat)=>[(2,.ref g),(3,.ref a),(4,.ref b),(5,.ref d),(6,.ref aA.x),(9,.int (f:Nat)),(10,.ref c)])
    (λ Q _ f=>f+1=pd ((co.take j.length).flatMap goals++Q.map (·.2))) f (tC (aL y.3) (ze _) λ _ _=>aL y.3) rfl N rfl (by rw [kU,h9];exact b8) (λ Q p a5 f iJ R b8 d0 _=>⟨_,rfl,?_⟩) λ f b8=>cK (b1 f ?_) (by rw [CR];rfl) rfl
   ·have S:p∈T.moves:=by rw [R];simp
    refine eo λ n=> ?_;obtain ⟨U,C⟩:=l.5 T u p.1 p.2 S;refine n ?_;have X:=(cF.mp C.1).1;refine eo λ n=> ?_;obtain ⟨adl,jr,D⟩:=x.get X;have Y:=D.2.1;refine n ?_;rw [C.1] at Y;cases Y;refine D.2.2.1.1.elim λ us V=> ?_;rw [C.2.1] at V;have agc:p.2<=f+1:=by
     rw [b8];refine l.6.4 _ p.2 (a5.map (·.2)++(co.drop (j.length+1)).flatMap goals) ?_;rw [agb];simp [goals,R]
    refine bO (aL F.1) rfl F.2.2.2.2.2.2.1<|hZ (v:= .int (p.2:Nat)) (aL y.3) ⟨_,rfl⟩ (by rw [h1,(ew gp S:br T.moves p.1=some p.2)];rfl)<|fv (λ h=>absurd (mf.mpr agc) (Int.not_le.mpr h)) λ _=>bO (aL a1) rfl a2<|d4 (aL bA) (bX (bx X l.2) (by decide)) (o8 D.1)<|bO (aL V.1) rfl V.2.2.2.2.1<|iM (λ _=>af8<|cK (d0 (max f p.2) ?_) rfl rfl) λ h=>absurd rfl h
    rw [eR,<- jy];show _=pd (_++[p.2]);rw [PZ,<- b8];exact (Nat.add_max_add_right ..).symm
   ·rw [CR,A,w1,Jl];exact b8
  refine bO (aL a1) rfl a2<|d4 (aL bA) (bX (bx s.2.1 l.2) (by decide)) (o8 w.1)<|bO (aL F.1) rfl F.2.1<|iM (λ _=>af9 Z O zj y m.1 m.2.1 m.2.2.1 m.2.2.2 z (afJ O m.1 z.nodup (cw T u).2)<|tA rfl<|bO (aL F.1) rfl F.2.2.2.1<|yj ((eu _).trans (f3 _)) (by unfold lim;exact bF (a9 (z.len O) (by decide)))<|fv (λ J=> ?_) λ J=> ?_) λ h=>absurd rfl h
  ·obtain ⟨k,ao⟩:=zo.mp ((f3 T.aU).trans (fU J));exact fl (rc 10 rfl) rfl<|bO (aL F.1) rfl F.2.2.2.1<|g0 (ys:=(kN (co.take (j.length+1))).map wd) 10 rfl (by rw [cz];unfold lim;exact ci (.l .p (.k 2000)<| .l .q .r<| .l .r .p<| .g (.s .q) (.k 16000000)) rfl l.2 I (wu _ _)) (by rw [L,eR,show m4 T=[k] by unfold m4;rw [ao];exact if_pos rfl,ao];rfl)<|bO (aL F.1) rfl F.2.2.2.2.2.2.1<|M rfl
  ·refine bO (aL F.1) rfl F.2.2.2.2.2.2.1<|M ?_;rw [L,show m4 T=[] from if_neg λ q=>J (congrArg ml ((f3 T.aU).symm.trans q)),h9];rfl
 ·rw [gy,zD] at b8 ⊢;exact q f (b8.trans l.6.5)
end
section
variable {W:a0} {P:eg} {r:Nat} {E:ag->Prop} {H:ag} {Q:KE} {G:au}
noncomputable def ir (p:Nat×Nat):ai:= .tup [.int (p.1:Nat),.int (p.2:Nat)]
theorem RP {p q:Nat×Nat} (h:ir p=ir q):p=q:=by
 simp only [ir,ai.tup.injEq,Tv,ai.int.injEq,and_true] at h;exact ux (fU h.1) (fU h.2)
noncomputable def sq:Shape:= .key
theorem H4 (p:Nat×Nat):sq.has (ir p):=⟨_,rfl,kg.mpr ⟨.inl ⟨_,rfl⟩,kg.mpr ⟨.inl ⟨_,rfl⟩,λ _ h=>(by cases h)⟩⟩⟩
noncomputable def md (bu:a8):List (ai×ai):=bu.map λ p=>(ir p,.bool true)
theorem agd (bu:a8) (p:Nat×Nat):(cU (md bu) (ir p)).isSome=decide (p∈bu):=by
 induction bu with
 | nil=>simp [md,cU]
 | cons q bu ih=>
  show (cU ((ir q,.bool true)::md bu) (ir p)).isSome=_;rw [uZ]
  by_cases h:q=p
  ·subst h;simp
  ·have a:¬p=q:=λ e=>h e.symm;rw [if_neg (λ e=>h (RP e):¬ir q=ir p),ih];simp [a]
theorem age {p:Nat×Nat} (h:p∉bu):hk (md bu) (ir p) (.bool true)=md (bu++[p]):=by
 rw [KI]
 ·simp [md]
 ·intro a;obtain ⟨x,b,e⟩:=bH.mp a;obtain ⟨q,c,rfl⟩:=bH.mp b;exact h (RP e▸c)
theorem agf {C:gY} {L:Cells} {k:aJ} {st:aV} {K:dK} {y:ak} (p:Nat×Nat) (h:dD B L y (.dict sq (md bu))) (q:T C B L (bb C.n k (.bool (!decide (p∈bu))::st) A) K):T C B L (.cmp .NotIn::k,.ref y::ir p::st,A) K:=NT h (H4 p) (agd bu p) q
theorem pairs_len {A B:Nat} (g:bu.Nodup) (h:∀p∈bu,p.1<A∧p.2<B):bu.length<=A*B:=by
 have J:(bu.map λ p=>p.1*B+p.2).Nodup:=by
  refine SH.mpr (g.imp_of_mem λ {a b} i j k e=>k ?_);have c:=(h b j).2;have d:a.1=b.1:=by
   have x:=congrArg (· /B) e;simp only [Nat.mul_comm _ B,Nat.mul_add_div (show 0<B by exact a9 (dz _) c),IK ((h a i).2),IK c] at x
   exact dg (bD (.e (.a .p (.k 0)) (.a .q (.k 0))<| .g .p .q) rfl x) (bD (.f (.a .p (.k 0)) (.a .q (.k 0))<| .g .q .p) rfl x)
  have l:a.2=b.2:=by rw [d] at e;exact dg (ci (.e (.a .p .q) (.a .p .r)<| .g .q .r) rfl e) (ci (.f (.a .p .q) (.a .p .r)<| .g .r .q) rfl e)
  exact ux d l
 have m:=jM (A*B) _ J λ x n=>by
  obtain ⟨p,o,rfl⟩:=bH.mp n;have f:=h p o
  calc p.1*B+p.2<p.1*B+B:=wt f.2 _
   _=(p.1+1)*B:=by rw [zX]
   _<=A*B:=Ia _ f.1
 rwa [cz] at m
theorem agg {k:aJ} {K:dK} {L:Cells} {σ:ck} {T:SVal} {es:List (ai×ai)} (y:ez B aA S) (z:ez B σ T) (hd:dD B L d (.dict qz es)) (o:(ar S.items).Nodup) (ms:aw) (f:sel ms L=L)
  {g a b j l:ak} {pos:Nat} (s:A=[(2,.ref g),(3,.ref a),(4,.ref b),(5,.ref d),(14,.ref j),(15,.ref l),(16,.int (pos:Nat)),(19,.ref aA.x),(20,.ref σ.x)])
  (t:∀i v,br S.items i=some v->dB λ (u:Nat) (m:Nat)=>br T.items i=some u∧v|||u=u∧cU es (uc (ar T.aU) i)=some (.int (m:Nat))∧u|||m=m)
  (q:Mine.T ⟨W,r,E,22⟩ B L (bb 22 k [] A) K):Mine.T ⟨W,r,E,22⟩ B L (.each (.one 7) MW::k,[.ref aA.it],A) K:=by
 subst s;refine y.1.elim λ fs F=>z.1.elim λ C V=> ?_;refine eL (ys:=S.items) (c0:=λ p:Nat×Nat=> .int (p.1:Nat)) ms [2,3,4,5,14,15,16,19,20] (cQ:=λ _ _=>B) (cR:=λ _ _=>L) (lf:=λ _ _=>[(2,.ref g),(3,.ref a),(4,.ref b),(5,.ref d),(14,.ref j),(15,.ref l),(16,.int (pos:Nat)),(19,.ref aA.x),(20,.ref σ.x)])
  (λ _ _ (_:Unit)=>True) () (tC (aL y.2) (ze _) λ _ _=>aL y.2) rfl f rfl trivial (λ D p e _ G w _ x _=>⟨_,rfl,?_⟩) λ _ _=>q
 have n:br S.items p.1=some p.2:=ew o (by rw [w];simp)
 obtain ⟨u,m,c⟩:=t _ _ n;refine tH z<|hZ (v:= .int (u:Nat)) (aL z.2) ⟨_,rfl⟩ (by rw [h1,c.1];rfl)<|tH y<|hZ (v:= .int (p.2:Nat)) (aL y.2) ⟨_,rfl⟩ (by rw [h1,n];rfl)<|oT ?_
 rw [c.2.1];refine iM (λ _=>yB z<|hZ (v:= .int (m:Nat)) hd (CQ _ _) c.2.2.1<|oT ?_) λ h=>absurd rfl h;rw [c.2.2.2];exact yB z<|hZ (v:= .int (m:Nat)) hd (CQ _ _) c.2.2.1<|iM (λ _=>cK (x () trivial) f rfl) λ h=>absurd rfl h
def ue (aj co:b9) (p:Nat×Nat):Prop:=dB λ (S:SVal) (T:SVal)=>aj[p.1]? =some S∧co[p.2]? =some T∧Sub S.aU T.aU
theorem RQ (b:bu.Nodup) (h:∀p∈bu,ue aj co p):bu.length<=aj.length*co.length:=
 pairs_len b λ p c=>by
  obtain ⟨S,T,a⟩:=h p c;exact ⟨(cF.mp a.1).1,(cF.mp a.2.1).1⟩
theorem agi (C:o7 G df aj aj.length) (t:tR G cD co) (u:aj.length*co.length<=4000000) {k:aJ} {K:dK} {σ:ck} {T:SVal} (M:S∈aj) (A:T∈co) (D:Sub S.aU T.aU) (y:ez B aA S) (z:ez B σ T)
  {g a b d i j:ak} {pos:Nat} {bu:a8} (N:bu.Nodup) (O:∀p∈bu,ue aj co p)
  (q:∀c,c.Nodup->(∀p∈c,ue aj co p)->bu.length<=c.length->Mine.T ⟨W,r,E,22⟩ B [(5,d,o),(14,i,.list (c.map ir)),(15,j,.dict sq (md c))] (bb 22 k [] [(2,.ref g),(3,.ref a),(4,.ref b),(5,.ref d),(14,.ref i),(15,.ref j),(16,.int (pos:Nat)),(19,.ref aA.x),(20,.ref σ.x)]) K):
  Mine.T ⟨W,r,E,22⟩ B [(5,d,o),(14,i,.list (bu.map ir)),(15,j,.dict sq (md bu))] (.each (.one 12) MX::k,[.ref σ.bS],[(2,.ref g),(3,.ref a),(4,.ref b),(5,.ref d),(14,.ref i),(15,.ref j),(16,.int (pos:Nat)),(19,.ref aA.x),(20,.ref σ.x)]) K:=by
 refine y.1.elim λ fs F=>z.1.elim λ Z V=> ?_;have l:=n7 C M;have m:=t.4 T A;have P:ar S.moves=ar T.moves:=by rw [l.4,m.2.2.2];exact HY D.1 l.1 m.1
 have Q:(ar T.moves).Nodup:=by rw [m.2.2.2];exact (vS _).imp λ h=>e6 h
 refine eL (ys:=T.moves) (c0:=λ p:Nat×Nat=> .int (p.1:Nat)) [5,14,15] [2,3,4,5,14,15,16,19,20] (cQ:=λ _ _=>B) (cR:=λ _ bu=>[(5,d,o),(14,i,.list (bu.map ir)),(15,j,.dict sq (md bu))]) (lf:=λ _ _=>[(2,.ref g),(3,.ref a),(4,.ref b),(5,.ref d),(14,.ref i),(15,.ref j),(16,.int (pos:Nat)),(19,.ref aA.x),(20,.ref σ.x)])
  (λ _ _ c=>c.Nodup∧(∀p∈c,ue aj co p)∧bu.length<=c.length) bu (tC (aL z.3) (ze _) λ _ _=>aL z.3) rfl rfl rfl ⟨N,O,dn _⟩ (λ gF p e c cV R aK H _=>⟨_,rfl,?_⟩) λ c aK=>q c aK.1 aK.2.1 aK.2.2
 have n:p∈T.moves:=by rw [R];simp
 obtain ⟨x,I⟩:=hh.mp (ey.mpr (show p.1∈ar S.moves by rw [P];exact bH.mpr ⟨p,n,rfl⟩))
 have X:ue aj co (x,p.2):=by
  obtain ⟨S',J⟩:=l.5 p.1 x (g4 I);obtain ⟨U,aD⟩:=t.5 T A p.1 p.2 n;exact ⟨S',U,J.1,aD.1,by rw [J.2];exact (afU D l.1 m.1 p.1).trans aD.2.2⟩
 have L:=RQ aK.1 aK.2.1;refine yC y<|hZ (v:= .int (x:Nat)) (aL y.3) ⟨_,rfl⟩ (by rw [h1,I];rfl)<|yC z<|hZ (v:= .int (p.2:Nat)) (aL z.3) ⟨_,rfl⟩ (by rw [h1,(ew Q n:br T.moves p.1=some p.2)];rfl)<|agf (x,p.2) (rc 15 rfl)<|iM (λ s=>cK (H c aK) rfl rfl) λ s=>oU (w:=ir (x,p.2)) (fs:=md (c++[(x,p.2)])) 15 rfl (H4 _) (by unfold md;rw [cz];unfold lim;exact a9 (bB L u) (by decide)) (age s)<|fl (rc 14 rfl) rfl<|g0 (ys:=(c++[(x,p.2)]).map ir) 14 rfl (by rw [cz];unfold lim;exact a9 (bB L u) (by decide)) (by rw [eR];rfl)<|cK (H (c++[(x,p.2)]) ⟨?_,λ y f=> ?_,by rw [CR];exact DD aK.2.2⟩) rfl rfl
 ·rw [gx];exact ⟨aK.1,by simp,λ x Y y f=>by rw [b3] at f;subst f;rintro rfl;exact s Y⟩
 ·rcases c6.mp f with f | f
  ·exact aK.2.1 y f
  ·rw [b3] at f;subst f;exact X
end
section
variable {W:a0} {P:eg} {r:Nat} {E:ag->Prop} {H:ag} {Q:KE} {G:au}
section
variable {C:gY} {B:ag} {L:Cells} {k:aJ} {st:aV} {A:du} {K:dK} {x y:ak} {l:aw} {es:aS} {e:Bool}
theorem RR (h:dD B L x (.list (nats l))) (a:dD B L y (.list (nats l))) (q:T C B L (bb C.n k (.bool false::st) A) K):T C B L (.cmp .NotEq::k,.ref y:: .ref x::st,A) K:=λ a7 H z f=>gm.ne (.list (h H f) (a H f) ⟨ub l,ub l⟩ ((decide_eq_true (rfl:nats l=nats l)).symm▸q.go z f))
theorem H5 (m:Nat) (h:dD B L x (.dict .int (dJ es))) (a:es.length<=60) (q:∀c,T C B ((m,c,.list (nats (ea (ar es))))::L) (bb C.n k (.ref c::st) A) K):T C B L (.call e .sL 1::k,.ref x::st,A) K:=qb m h (by rw [j7];exact a) (by rw [oZ,qm];rfl) q
end
theorem agl {aZ U:List ck} (O:G.Ok) (C:o7 G df aj aj.length) (X:aj.length<=2000) (j:tR G (Hg G df (Hh aj)) co) {k:aJ} {K:dK} {b l o Y:ak} {Z H6:bp->Option ai} {es:List (ai×ai)} (M:qA es (qB aj))
  (a1:B a=some (.inst .kW Z)) (a2:Z .sO=some (.ref cZ)) (bA:B cZ=some (.list (refs aZ))) (x:eM B aZ aj) (cM:B b=some (.inst .kW H6)) (da:H6 .sO=some (.ref Y)) (fB:B Y=some (.list (refs U))) (lN:eM B U co)
  (q:∀el jk RS pos,Mine.T ⟨W,r,E,22⟩ B [(5,d,el),(14,l,jk),(15,o,RS)] (bb 22 k [] [(2,.ref g),(3,.ref a),(4,.ref b),(5,.ref d),(14,.ref l),(15,.ref o),(16,pos)]) K):
  Mine.T ⟨W,r,E,22⟩ B [(5,d,.dict qz es),(14,l,.list [ir (0,0)]),(15,o,.dict sq [(ir (0,0),.bool true)])] (.loop MY::k,[],[(2,.ref g),(3,.ref a),(4,.ref b),(5,.ref d),(14,.ref l),(15,.ref o),(16,.int ((0:Nat):Int))]) K:=by
 have A:aj.length*co.length<=4000000:=bB (Nat.mul_le_mul X j.2) (by decide)
 refine rS [5,14,15] [2,3,4,5,14,15,16] (cQ:=λ _=>B) (cR:=λ s:a8×Nat=>[(5,d,.dict qz es),(14,l,.list (s.1.map ir)),(15,o,.dict sq (md s.1))]) (lf:=λ s=>[(2,.ref g),(3,.ref a),(4,.ref b),(5,.ref d),(14,.ref l),(15,.ref o),(16,.int (s.2:Nat))])
  (λ n s=>n=aj.length*co.length - s.2∧s.2<=s.1.length∧s.1.Nodup∧∀p∈s.1,ue aj co p) _ ([(0,0)],0) rfl rfl rfl ⟨rfl,dz _,by simp,λ p D=>b3.mp D▸(C.3.elim λ S s=>j.6.2.elim λ T t=>⟨S,T,s.1,t.1,by rw [s.2];exact t.2.1⟩:ue aj co (0,0))⟩ λ n s cV I b1 j8 _=> ?_
 have H:=RQ I.2.2.1 I.2.2.2;refine iN (rc 14 rfl) (cz ..) (by unfold lim;exact bF (a9 (bB H A) (by decide)))<|fv (λ bK=> ?_) λ _=>j8 (q _ _ _ _)
 have bK:s.2<s.1.length:=by exact hx.mp bK
 have RT:=c4 bK;have Cm:=I.2.2.2 _ (jd bK);generalize s.1[s.2]=p at RT Cm;obtain ⟨S,T,e⟩:=Cm;have L:=cY e.1;have N:=cY e.2.1;have RU:=(cF.mp e.1).1;have RV:=(cF.mp e.2.1).1;obtain ⟨aA,S',P⟩:=x.get RU;have bC:=P.2.1;have y:=P.2.2.1;rw [e.1] at bC;cases bC;obtain ⟨σ,fZ,Q⟩:=lN.get RV;have fb:=Q.2.1;have z:=Q.2.2.1;rw [e.2.1] at fb;cases fb;have f:=n7 C L;have w:=j.4 T N;have CS:∀{K es:aS},c1 G G.bN G.bR K es->es.length<=50∧(G.syms es).length<=12:=λ {K es} c=>by
  have:=jM G.N (ar es) c.1 λ i ah=>by
   obtain ⟨m,hm⟩:=hh.mp (ey.mpr ah);exact (c.4 i m hm).1
  rw [f3] at this;exact ⟨bB this O.5,yI O λ p D=>(c.4 p.1 p.2 (ew c.1 D)).1⟩
 have ud:=CS f.1;have RW:=CS w.1;have agm:S.moves.length<=12:=by rw [<- f3,f.4];exact ud.2
 have agn:T.moves.length<=12:=by rw [<- f3,w.2.2.2];exact RW.2
 have ago:ea (ar S.moves)=ar T.moves:=by rw [f.4,Ck (vS _),w.2.2.2];exact HY e.2.2.1 f.1 w.1
 refine y.1.elim λ fs F=>z.1.elim λ fj V=> ?_;rw [<- e.2.2.1] at V;refine d4 (v:=ir p) (rc 14 rfl) (by exact bX (bx (bx bK H) A) (by decide)) (by rw [ff,RT];rfl)<|bO (aL a1) rfl a2<|d4 (aL bA) (by exact bX (bx RU X) (by decide)) (o8 P.1)<|bO (aL cM) rfl da<|d4 (aL fB) (by exact bX (bx RV j.2) (by decide)) (o8 Q.1)<|bO (aL F.1) rfl F.2.2.2.1<|bO (aL V.1) rfl V.2.2.2.1<|Rr<|nQ rfl<|
  bO (aL F.1) rfl F.2.2.2.2.2.1<|H5 20 (aL y.2) (by exact bF (a9 ud.1 (by decide))) λ dI=>bO (aL V.1) rfl V.2.2.2.2.2.1<|H5 21 (aL z.2) (by exact bF (a9 RW.1 (by decide))) λ b2=> ?_
 rw [<- afX e.2.2.1 f.1 w.1];refine RR (rc 20 rfl) (rc 21 rfl)<|nQ rfl<|bO (aL F.1) rfl F.2.2.2.2.2.1<|j4 [5,14,15] [2,3,4,5,14,15,16,19,20] rfl rfl<|agg (pos:=s.2+1) y z (rc 5 rfl) f.1.1 [5,14,15] rfl rfl (λ i v aF=> ?_) ?_
 ·obtain ⟨u,R⟩:=afV e.2.2 f.1 w.1 aF;obtain ⟨m,aQ⟩:=M.3 _ (nf.mpr ⟨S,L,bH.mpr ⟨(i,v),g4 aF,rfl⟩⟩:(ar S.aU,i,v)∈qB aj);have J:=aQ.1;dsimp only at J;rw [e.2.2.1] at J;refine ⟨u,m,R.1,by rw [uJ];exact R.2,J,?_⟩
  rw [uJ];refine afY C j N R.1 λ oH agp ko v2 nk=> ?_;obtain ⟨kr,aD⟩:=M.3 (ar oH.aU,i,v2) (nf.mpr ⟨oH,agp,bH.mpr ⟨(i,v2),g4 nk,rfl⟩⟩);have h:=aD.1;have aM:=aD.2;dsimp only at h aM;rw [ko,J] at h;injection h with h;injection h with h;rw [show m=kr by exact fU h];exact aM
 refine bO (aL F.1) rfl F.2.2.2.2.2.2.1<|H5 20 (aL y.3) (by exact bF (a9 agm (by decide))) λ di=> ?_
 rw [ago];refine bO (aL V.1) rfl V.2.2.2.2.2.2.1<|F3 (xs:=nats (ar T.moves)) 21 (aL z.3) (by rw [j7];unfold lim;exact bF (a9 agn (by decide))) (oZ _) λ iI=>RR (rc 20 rfl) (rc 21 rfl)<|nQ rfl<|bO (aL V.1) rfl V.2.2.2.2.2.2.1<|j4 [5,14,15] [2,3,4,5,14,15,16,19,20] rfl rfl<|agi (pos:=s.2+1) C j A L N e.2.2 y z I.2.2.1 I.2.2.2 λ jx dp eU hS=>cK (b1 (aj.length*co.length - (s.2+1)) (jx,s.2+1) (by have:=I.1;exact hC (.f .p .q<| .l (.a .r (.s .t)) .u<| .l .u (.a .q .t)<| .g (.s .r) .p) rfl I.1 (bE (ef (ci (.l .p .q<| .l (.s .r) .p<| .g (.s .r) .q) rfl H bK))) (sb _ _)) ⟨rfl,by dsimp only;exact su (bx bK hS),dp,eU⟩) rfl rfl
end
end Mine
end
section
open PySem PySem.W PyProof.Rows PySem.Calls
namespace Mine
open Classical
variable {W:a0} {P:eg} {r:Nat} {E:ag->Prop} {H:ag} {Q:KE} {G:au}
section
variable {C:gY} {B:ag} {L:Cells} {k:aJ} {st:aV} {A:du} {K:dK} {x y:ak} {e:Bool}
theorem agq {xs ys:aV} {j:Int} {i:Nat} (m:Nat) (h:dD B L x (.gG xs)) (a:j=(i:Nat)) (b:i<2^60) (d:xs.length<=lim) (e:xs.take i=ys) (q:∀c,T C B ((m,c,.list ys)::L) (bb C.n k (.ref c::st) A) K):T C B L (.slice::k,.int j:: .none:: .ref x::st,A) K:=λ l H z f=>by
 subst e a;exact q0.gG (h H f) (m6 i) (hx.mpr b) d λ c aI=>(q c).go z (f.new m aI)
theorem agr {n:Int} {d:Nat} (h:0<d) (q:T C B L (bb C.n k (.int ((n.fmod d).toNat:Nat)::st) A) K):T C B L (.bin .Mod::k,.int (d:Nat):: .int n::st,A) K:=λ l H z f=>by
 rw [Jk n (m6 d),Sn (SM n (show (d:Int)≠0 from λ e=>m7 h (fU e)))] at q;refine gK.mod (λ e=>m7 h (fU e)) ?_;rw [Jk n (m6 d)];exact q.go z f
theorem ags {n:Int} (q:T C B L (bb C.n k (.int n::st) A) K):T C B L (.call e .Jw 1::k,.int n::st,A) K:=jl rfl rfl λ l H z f=> .int (q.go z f)
theorem agt {ns:aw} (m:Nat) (h:dD B L x (.list (ns.map wd))) (a:ns.Nodup) (b:∀n∈ns,n<50) (q:∀c,T C B ((m,c,.kX ns.length)::L) (bb C.n k (.ref c::st) A) K):T C B L (.call e .Jz 1::k,.ref x::st,A) K:=jl rfl rfl λ l H z f=> .set (h H f) a b λ c aI=>(q c).go z (f.new m aI)
theorem agu {n:Nat} (h:dD B L x (.kX n)) (a:n<=lim) (q:T C B L (bb C.n k (.int (n:Nat)::st) A) K):T C B L (.call e .sJ 1::k,.ref x::st,A) K:=jl rfl rfl λ l H z f=> .JW (h H f) a (q.go z f)
theorem RX {vs:aV} (h:dD B L x (.list vs)) (a:dD B L y (.list [])) (b:∀v∈vs,d1 4 v) (q:T C B L (bb C.n k (.bool (decide (vs=[]))::st) A) K):T C B L (.cmp .Eq::k,.ref y:: .ref x::st,A) K:=λ l H z f=>gm.eq (.list (h H f) (a H f) ⟨b,λ _ h=>(by cases h)⟩ (q.go z f))
theorem agv {b:aJ} {p:Bool} (J:p=true->T C B L (bb C.n k (.bool true::st) A) K) (a:p=false->T C B L (bb C.n (b++k) st A) K):T C B L (.gc false b::k,.bool p::st,A) K:=λ l H x f=>by
 cases p with
 | true=>exact iX.bool ((J rfl).go x f)
 | false=>have:=(a rfl).go x f;rw [BC] at this;exact iX.bool this
end
noncomputable def zk (ns:List Int):aw:=(ns.take 24).map λ k=>(k.fmod 999983).toNat
theorem agw {ns:List Int}:(zk ns).length<=24∧∀x∈zk ns,x<999983:=by
 refine ⟨by unfold zk;rw [cz,mj];exact ct (.l .p (.k 24)<| .g .p (.k 24)) rfl (oa _ _),λ x a=> ?_⟩
 obtain ⟨k,_,rfl⟩:=bH.mp a;have:=ahn k (show (0:Int)<999983 by decide)
 rw [Jk _ (by decide)]
 exact (Int.toNat_lt (SM _ (by decide))).mpr this
theorem RY (Z:tw W P) {B:ag} {L:Cells} {e7:ak} {R:aw} (O:CH R) (aB:dD B L e7 (.list (nats R))) (q:∀aa,Q (.bool true) aa):
  T ⟨W,r+10,E,22⟩ B L (bb 22 (xV.drop 10) [] [(1,.ref e7)]) (rQ Q):=by
 refine fm rfl rfl λ l gq z f=>afz Z.toBase O (aB _ f) λ H1 aY=>T.go (tA rfl<|fm rfl rfl λ l aj2 z f1=>afq Z.toBase O (f1.1 _ _ (aY _ _ (aB _ f))) λ qy L bs dG a5 FS lN=> ?_) z (Fr.nil H1);have H:=afS FS;obtain ⟨aj3,RZ⟩:=H.2.2;have v:=H.2.1;refine T.go (fm rfl rfl λ l aj4 z f2=>afj Z.toBase H.1 v.1 (lN.ext f2.1) λ g jj cB I=> ?_) z (Fr.nil dG);generalize eH L=G at v RZ I;have F:=RZ.afI v;have k:=v.1;refine T.go (fm rfl rfl λ l aj5 z lK=>acY Z.toBase k (I.ext lK.1) F.toB0 λ a aZ aj agx fW A x C=> ?_) z (Fr.nil jj);have R0:=(I.ext lK.1).ext fW;refine T.go (fm rfl rfl λ l aj7 z y=>aeb Z.toBase (Qg k F (Qh C)) k (R0.ext y.1) λ b σs co Bb N A2 t j=> ?_) z (Fr.nil agx);have R1:=(R0.ext y.1).ext N;have jC:=(A.ext y.1).ext N;have U:=(x.ext y.1).ext N;have X:aj.length<=2000:=by
  have:=F.bound (aj.map (·.aU)) C.1 λ K cw=>by
   obtain ⟨S,o,rfl⟩:=bH.mp cw;exact (C.2 S o).1
  rw [cz] at this;exact bF this
 have CS:∀{K es:aS},c1 G G.bN G.bR K es->es.length<=50:=λ {K es} c=>by
  have:=jM G.N (ar es) c.1 λ i ah=>by
   obtain ⟨m,D⟩:=hh.mp (ey.mpr ah);exact (c.4 i m D).1
  rw [f3] at this;exact bB this k.5
 have D:∀T∈co,fQ G T.aU∧wc G T.aU:=λ T s=>⟨(j.6.1 T s).2.2,(j.6.1 T s).1.2⟩;have w:=j.2;have pj:=RN co;have vC:∀n∈kN co,n<50:=λ n Y=>by
  obtain ⟨T,s,J⟩:=nf.mp Y;obtain ⟨p,ax,e⟩:=bH.mp (show n∈ar T.aU by rw [(H2 J)];simp)
  have:=k.5;exact ci (.f .p .q<| .l (.s .p) .r<| .l .r (.k 50)<| .g (.s .q) (.k 50)) rfl e (((D T s).1.2 p ax).1) this
 obtain ⟨T0,bI⟩:=j.6.2;obtain ⟨Pa,aj8,bf⟩:=t.get j.1;have bC:=bf.2.1;rw [bI.1] at bC;cases bC;refine jC.1.elim λ ro aj9 u=>A2.1.elim λ H6 sb en=>bf.2.2.1.1.elim λ us V=> ?_;rw [bI.2.2] at V;refine T.go (lh 5 qz λ d=>bO (aL u.1) rfl u.2.1<|j4 [5] [2,3,4,5] rfl rfl<|af5 (λ S o=>⟨CS (n7 C o).1,(n7 C o).1.1⟩) X u.2.2 U λ es M=>fw 10 rfl λ c=>bO (aL en.1) rfl en.2.1<|iN (i:=co.length) (aL en.2.2) ((qo _).trans t.1) (by unfold lim;exact bF (a9 w (by decide)))<|l1 (a9 w (by decide))<|j4 [5,10] [2,3,4,5,9,10] rfl rfl<|aga Z.toBase k j D R1 en.1 en.2.1 en.2.2 t λ top agy=> ?_) z (Fr.nil Bb)
 refine bO (aL en.1) rfl en.2.1<|iN (i:=co.length) (aL en.2.2) ((qo _).trans t.1) (by unfold lim;exact bF (a9 w (by decide)))<|iM (λ _=> ?_) λ h=>absurd (congrArg ml agy) h
 refine iN (rc 10 rfl) (cz ..) (by unfold lim;exact bF (a9 (bB pj w) (by decide)))<|agt 11 (rc 10 rfl) (af7 j) vC λ b2=>agu (rc 11 rfl) (by unfold lim;exact bF (a9 (bB pj w) (by decide)))<|iM (λ _=>bO (aL en.1) rfl en.2.1<|d4 (i:=0) (aL en.2.2) (by decide) (o8 bf.1)<|bO (aL V.1) rfl V.2.2.2.2.1<|iM (λ _=> ?_) λ h=>absurd rfl h) λ h=>absurd rfl h
 refine fw 14 rfl λ jW=>lh 15 sq λ cJ=>F1 15 rfl (H4 (0,0))<|j4 [5,14,15] [2,3,4,5,14,15,16] rfl rfl<|agl k C X j M u.1 u.2.1 u.2.2 U en.1 en.2.1 en.2.2 t λ el jk RS pos=> ?_;refine v.afK.elim λ v0 lZ=> ?_;refine fm rfl rfl λ l aka z R2=>aaI Z (aec Z.toBase (Qg k F (Qh C)) k (R1.ext R2.1) lZ.1 lZ.2.1 lZ.2.2 (λ aa e=>e)) λ akb agz=>T.go (CL rfl<|fm rfl rfl λ l akc z H8=> ?_) z (R2.more agz);refine Px Z.toBase (A2.ext H8.1) (t.ext H8.1) j.2 (λ T s=>RI k (j.4 T s).1 (j.4 T s).2.1) λ di akd vs agA Y agB agC hH _=>T.go (fw 21 rfl λ nl=>RX (rc 20 rfl) (rc 21 rfl) agC<|agv (λ _=>e9 λ aa _=>q aa) λ aF=> ?_) z (H8.put agA 20 Y agB);refine fm rfl rfl λ l ake z H9=>adp Z.toBase (jC.ext H9.1) (U.ext H9.1) X (λ S o=>RI k (n7 C o).1 (n7 C o).2) λ akf agD=> ?_;rw [decide_eq_false λ h=>of_decide_eq_false aF (hH.mpr (afZ C j h))];exact T.go (e9 λ aa _=>q aa) z (H9.more agD)
theorem agE (Z:tw W P) {L:ak} {ns:List Int} (a:ns.length<=63) (b:H L=some (.gG (ns.map .int))) (q:∀aa,Q (.bool true) aa):
  runs W (r+10) E xV [] [some (.ref L),none,none,none,none,none,none,none,none,none,none,none,none,none,none,none,none,none,none,none,none,none] H (jH Q):=by
 have aD:=agw (ns:=ns);refine fN 22 rfl<|agq (i:=24) 1 (aL b) rfl (by decide) (by rw [cz];unfold lim;exact bF (a9 a (by decide))) List.map_take.symm λ c=>nT 2 (ns.take 24) (λ k=> .int ((k.fmod 999983).toNat:Nat)) (ym (rc 1 rfl) λ H f=>f.get 1 rfl) (by rw [mj];unfold lim;exact ct (.l .p (.k 24)<| .g .p (.k 16000000)) rfl (oa _ _)) (λ n j K' g=>⟨_,rfl,ags<|agr (d:=999983) (by decide)<|g _⟩) λ l=> ?_
 rw [show (ns.take 24).map (λ k=>ai.int ((k.fmod 999983).toNat:Nat))=nats (zk ns) by unfold nats zk;rw [e5];rfl]
 refine fw 3 rfl λ m=>RX (rc 2 rfl) (rc 3 rfl) (ub _)<|fv (λ _=>fw 4 rfl λ z=>j4 [4] [1] rfl rfl<|RY Z (R:=[0]) ⟨by decide,by decide,by decide⟩ (rc 4 rfl) q) λ h=>j4 [2] [1] rfl rfl<|RY Z ⟨List.length_pos_iff.mpr λ e=>h (by rw [e];rfl),aD.1,aD.2⟩ (rc 2 rfl) q
theorem agF:FQ:=λ W P B L ns H a b=>Z0 B.toBase (r:=29) (agE (r:=19) B a b λ _=>rfl)
end Mine
end
theorem PySem.Challenge.cw_nn0373_01_holds : PySem.Challenge.rw_nn0373_01.Holds :=
 Mine.aa2 Mine.agF
