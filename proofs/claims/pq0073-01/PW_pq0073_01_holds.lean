import PyProof.Rows.All
import Wide.All
import OpenK.AllK
import Wide.FinOn
import Lean
import PySem.Challenge.RW_pq0073_01
set_option bootstrap.genMatcherCode false
set_option compiler.extract_closed false
set_option linter.all false
set_option tactic.hygienic false
set_option Elab.async false
set_option maxRecDepth 100000
open Option renaming some→ae,none→ai,map_eq_some_iff→i9,map_some→mc,isSome_iff_exists→uq,map→ur,map_none→F6,bind_eq_some_iff→OP,isNone_iff_eq_none→OQ,isSome_none→OR,map_eq_none_iff→OS
open Bool renaming true→ag,false→aq,false_eq_true→dF,false_ne_true→dG,and_eq_true→mM,not_true→nJ,eq_iff_iff→ub,false_and→wV,not_eq_true'→Ax,not_false→Ay,rec→Az,true_and→AA,false_or→FC,not_eq_true→FD,or_eq_true→FE,or_false→FG,and_eq_true_iff→NU,and_false→NV,noConfusion→NW,not_not→NX
open Nat renaming le_of_not_lt→ao,le_of_eq→au,lt_of_not_le→aO,le_refl→bj,le_of_ble_eq_true→bR,le_antisymm→cz,zero_le→cJ,le_trans→dC,ne_of_lt→dN,lt_or_gt_of_ne→gN,lt_trans→gO,lt_of_lt_of_le→iP,le_of_lt→jy,lt_irrefl→jV,not_lt→l9,le_total→nO,not_lt_zero→oR,le_succ→qF,lt_succ_of_lt→su,min_le_left→sv,min_le_right→sx,testBit_and→sy,zero_add→sA,mod_lt→un,mul_div_le→uo,lt_of_le_of_lt→xd,lt_succ_self→xe,min_eq_left→xf,min_eq_right→xh,ne_of_gt→xi,strongRecOn→xj,succ_pos→xm,testBit_lt_two_pow→xn,ble→AM,eq_of_testBit_eq→AN,lt_or_ge→AO,lt_succ_iff→AP,max_eq_left→AQ,max_eq_right→AR,pow_le_pow_right→AS,sub_self→AT,succ→AU,add_zero→FZ,eq_zero_or_pos→F0,le_succ_of_le→F1,log2_lt→F3,lt_of_lt_of_eq→F4,pow_succ→F5,add_le_add→OD,add_left_cancel→OE,and_le_left→OF,le_of_lt_succ→OG,lt_or_eq_of_le→OH,lt_trichotomy→OI,mul_assoc→OJ,mul_le_mul_right→OK,or_lt_two_pow→OL,succ_le_succ→ON,testBit_or→OO
open PySem renaming wpAny_bind→ax,Addr→aL,wpAny_pure→aP,Shared→aV,wpAny→bm,Around→bG,model→bN,wpAny_mono→bP,eval→bU,wpAny_holding→cU,Sem→eL,holding→fb,Stmt→fE,wpAny_standAt→fF,Pos→f0,IsTupleKey→gw,standAt→gx,DictEntry→hX,rawInt→hZ,Tok→iw,starEach→iS,assign→jB,backTo→jC,codeAny→kM,CmpOp→lA,sizeLine_eq→lC,wpAny_setState_of→lD,NameKind→mR,atKey→mW,mainGlobals→nT,pyNext→nU,Operator→oV,backToKw→pb,codeAny_mono→pc,keywordEach→pd,pyIter→pf,swapsWith→ph,tupleKind→pi,wpAny_newObj_type→pk,Comprehension→qJ,Thread→qM,callEnvC→qO,codeAny_builtin→qP,compareOp→qQ,wpAny_call_entry→qR,wpAny_rule→qS,World→sD,callWith→sE,intKind_is→sF,isTrue→sG,plainId_quiet→sI,setNext→sJ,swappedStores→sK,binaryOp→uA,intKind→uB,intText?→uC,setField→uD,strKind→uE,wpAny_mkText→uF,wpAny_pyIter_list→uG,wpAny_setField→uH,OsState→xt,compTurn→xy,hashByValue→xz,mem_of_lookup→xA,operate→xB,relayAll→xC,setItem→xD,slicePicked→xE,treeTable→xF,truthy→xG,valueAt→xH,without→xI,wpAny_askSetting→xJ,wpAny_of_eq→xK,wpAny_seqItems→xL,wpAny_truthy_bool→xM,wpAny_typeOf→xN,ElemsOf→AW,FuncData→AX,ItemsAre→AZ,argBest→A7,attributeBase→A8,builtinsNs→A9,call_meets→Ba,compEnvC→Bb,compPost→Bc,comprehension→Bd,concat_meets→Be,entryFor→Bf,foldedSetIterable→Bg,markedBehindIn→Bh,methodCall→Bi,methodCallForm→Bj,newList→Bk,relabel→Bl,setAddHashed→Bm,slicePick→Bn,spliced→Bo,wpAny_call→Bp,wpAny_newList→Bq,wpAny_operateT→Br,wpAny_specialOf→Bs,wpAny_storeSet_of→Bt,builtinLookup_eq_fast→GC,codeAny_of_tree→GD,dictSetDefault→GE,exec_Assign_Name_used→GF,importedModules→GG,isSubtype_type→GH,letOwnedTupleGo→GI,noFill_tuple_add→GJ,notIterableAtAll→GK,seq_tuple_add→GM,setAddHashedIn→GN,typeIs_str→GO,typeLookup_type→GP,wpAny_execs_nil→GQ,wpAny_forIn_list→GR,wpAny_isInstance→GS,wpAny_ite_split→GT,wpAny_load→GU,wpAny_release→GV,callWith_type→Pn,codeAny_call_builtin→Po,getattributeRaised→Pq,lookup_relabel_local→Pr,searchCouldBeSeen→Ps,slot_dict_getitem→Pt,slot_list_getitem→Pu,slot_list_setitem→Pv,sub_AttributeError→Pw,wpAny_assign_Name→Px,wpAny_callSpecial?_slot→Py,wpAny_dictSet_pairs→Pz,wpAny_eqIsQuiet_tuple→PA,wpAny_notOrdered_dict→PB,wpAny_pyIter_listiter→PC,wpAny_pyIter_slot→PD,wpAny_setEntries_of→PF
open List renaming set→bh,length_map→bp,range→bw,map_cons→bB,mem_map→bH,getElem?_eq_some_iff→bJ,length_append→bS,toArray→bT,getElem?_eq_getElem→bV,nil_append→bX,mem_cons_self→ca,map_nil→ci,isEmpty→ct,replicate→cu,cons_append→cA,map_map→cB,mem_cons→cH,mem_cons_of_mem→cI,getD_eq_getElem?_getD→da,getElem?_map→dB,length_cons→dX,mem_append→d8,mem_range→er,mem_of_getElem?→eD,mem_singleton→eR,length_range→eZ,size_toArray→fu,getElem?_eq_none→iM,map_append→iN,map_congr_left→iO,length_nil→jx,append_assoc→kH,append_nil→kI,not_mem_nil→kJ,take_add_one→kK,take_length→kL,foldl_cons→lx,getElem_mem→ly,nodup_cons→lz,lookup_cons→l6,nodup_append→l7,any_eq_true→mN,length_eq_zero_iff→mO,mem_append_left→mP,getElem?_append→nK,getElem?_concat_length→nL,getElem?_of_mem→nM,pairwise_cons→nN,any_cons→oQ,all_eq_true→qy,drop_eq_getElem_cons→qz,length_set→qA,map_id→qB,mem_append_right→qC,pairwise_singleton→qD,sum_cons→qE,ext_getElem?→sh,filter→si,foldl_append→sj,getElem?_append_right→sk,length→sm,length_take→sq,reverse_cons→sr,filterMap_cons→uf,filter_map→uh,getElem?_append_left→ui,getElem?_set→uj,isEmpty_iff→ul,length_filter_le→um,countP_cons→wY,drop_zero→wZ,filter_cons→w9,flatMap_cons→xa,getElem?_range→xb,set_append_right→xc,all_cons→AD,getElem?_toArray→AE,map→AF,map_set→AG,nodup_range→AH,range_succ→AJ,zip_cons_cons→AL,countP_le_length→FM,drop_of_length_le→FN,filter_congr→FO,filter_eq_nil_iff→FP,find?_eq_none→FQ,find?_some→FR,getD→FS,getD_cons_succ→FT,mem_filter→FU,mem_nil_iff→FV,mem_of_find?_eq_some→FW,nodup_nil→FX,take_of_length_le→FY,any_map→N3,any_nil→N4,countP_congr→N5,ctorIdx→N6,dropLast_concat→N7,dropLast_concat_getLast→N8,drop_eq_nil_of_le→N9,drop_length→Oa,filter_cons_of_neg→Ob,filter_cons_of_pos→Oc,filter_filter→Od,find?_cons_of_neg→Oe,find?_cons_of_pos→Of,findIdx?_eq_none_iff→Og,getElem?_cons_succ→Oh,getElem?_drop→Oi,getElem?_replicate→Oj,getElem_cons_zero→Ol,getElem_range→Om,length_eraseIdx→On,length_pos_iff→Oo,length_reverse→Op,mem_filterMap→Oq,mem_flatMap→Os,mem_of_mem_drop→Ot,mem_of_mem_take→Ou,mem_or_eq_of_mem_set→Ov,mem_replicate→Ow,of_mem_zip→Ox,pairwise_append→Oy,pairwise_lt_range→Oz,pairwise_map→OA,reverse_nil→OB,zip_nil_right→OC
open PySem.Heap renaming lt_size→cq,get?_push_of_some→cv,get?_push_size→dw,size_push→dI,SameBut→jW,get?_update_self→nP,dictOf_iff→qL,get?_update_other→xr,size_update→AY,get?_push_ne→Pb
open PySem.BoolOp renaming And→dh,Or→xo
open PySem.SetTable renaming bits→gb,insertAt→iR,below→jX,turns→mS,Probe→nR,grown→oW,runEnd→ux,leap→xv,slot→A3,advance→Gx,insertAt_perm→Gy,fill→Pg,laid→Ph,layClean→Pi,probe→Pj,sizeAbove→Pk
open PyProof.Rows renaming seqObj→iQ,IntsAre→qG,tail_any→qH,args_list_sort→Ga,entry_list_sort→Gb,listUpdate_at→Gc,seqEpoch_at→Gd,slot_list_sort→Ge,sortedHeap_at→Gf,sortedHeap_old→Gg,lt_int→OV,slot_tuple_getitem→OW
open Int renaming ofNat→i7,toNat→i8,ofNat_lt→lw,lt_trans→oP,natCast_nonneg→qx,ofNat_le→ue,le_trans→wW,lt_of_le_of_lt→wX,negSucc→AB,not_le→FI,not_lt→FJ,emod_lt_of_pos→NY,emod_nonneg→NZ,eq_ofNat_of_zero_le→N0,min_eq_right→N1,self_le_toNat→N2
open PySem.Heap.SameBut renaming update→ja,refl→xq
open False renaming elim→jw
open Ne renaming symm→jz
open PySem.Value renaming none→jA,int→jY,type→nS,isInt_shape→oX,isStrOf_shape→oY,ref→sC,bool→A5,builtin→GA,isInt→Pl,isStrOf→Pm
open Array renaming getD→kF,length_toList→kG,getElem?_toList→oO,getElem?_eq_some_iff→ua,getElem?_eq_getElem→FA,toList_push→FB,forIn_toList→NQ,mem_toList_iff→NR,perm_iff_toList_perm→NS,replicate→NT
open PySem.Obj renaming mapSeq→lB,data_mapFields→nQ,mapFields→oU,isFreed_of_fields→A0,cls_mapFields→Gs,putName→Gu,putSet→Gv,data_mapDictKeys→Pd
open Option.some renaming inj→mQ,injEq→ut
open PySem.Str renaming ofString→mU,empty→Gz
open PySem.W renaming emptyDict→mV,instObj→pa,findIn→qN,topRun→uy,through→xw,boot_heap→A6,plainGet_of→GB
open PySem.Code renaming compLoop→oS
open PySem.NameKind renaming free→oT,cell→Pc
open PySem.Value.ref renaming inj→oZ
open True renaming intro→pn
open And renaming intro→qw
open PySem.Builtin renaming bitNot→qI,bitOr→Gi
open PySem.F renaming called_set→qK,args_tuple_add_2→Gl,entry_tuple_add→Gm,plainAttrs_dict→Gn,plainAttrs_list→Gp,slot_list_getattribute→Gq,slot_tuple_add→Gr,plain_extend_loop→O2,plain_list_iadd→O3,plain_set_new→O4,slot_dict_get→O5,slot_dict_pop→O6,slot_dict_setdefault→O7,slot_list_extend→O8,slot_list_pop→O9,slot_set_iter→Pa
open LT renaming lt→sg
open PySem.Around renaming under_plainId→sB
open Classical renaming byContradiction→uc
open ForInStep renaming yield→ud
open PySem.Challenge renaming rw_pq0073_01→uu
open PySem.Data renaming ctorIdx→uv
open PySem.PyData renaming keyHash→uw,eqvAll→Pe
open PySem.Walks renaming list→uz
open PySem.Calls renaming callWith_builtin→xp,spliced_cons→Gj,call_function_entry→O1
open PySem.SetTable.layClean renaming free→xu
open List.Pairwise renaming filter→AC
open PySem.Builtin.Str renaming occurrences→AV
open PySem.SetTable.below renaming go→A1
open PySem.SetTable.probe renaming go→A2
open PySem.Txt renaming isspace→A4
open Decidable renaming em→FH
open Int.ofNat renaming inj→FK
open Prod renaming fst→F7
open Prod.mk renaming inj→F8,injEq→OT
open PyProof.Rows.F renaming plain_set_update_loop→F9,entry_set_update_loop→OU
open PySem.Builtin.List renaming listExtendWith→Gh,listLengthHint→OY,listSameRef→OZ,listTooLong→O0
open PySem.Env renaming blockKind→Gk
open PySem.SeqAt renaming EqAt→Gw
open PySem.pickOrder renaming go→GL
open Nat.succ renaming inj→OM
open PySem.Builtin.Dict renaming updateFrom→OX
open PySem.SetTable.Slot renaming ctorIdx→Pf
open PySem.Builtin.Frozenset renaming newClass→agD,sizeOf→agE,slot0→agF,updateFrom→agG
open PySem.Data.dict renaming inj→agH
open PySem.Heap.IsSliceOf renaming new→agI
open PySem.MeetsSeq renaming list_pop_last→agJ
open PySem.Value.bool renaming inj→agK
open PySem.Value.type renaming inj→agL
open PySem PySem.W PyProof.Rows PySem.Calls
namespace Internal
variable{P:Value->aV->Prop}{a b i c j m k tk i0 iy r z ki an N mask ep EU:Nat}{p0 p1 p2 p3 p4 B:Prop}{b1 b2 b3 b4 b5 b6:Bool}{w:sD}{h h' h0 h₀:PySem.Heap}{v:Value}{ps D eJ:List (Nat×Nat)}{vs:List Value}{prog:Program}{s s':aV}{es:Array (Int×Value)}{env dH:Env}{R:Result->aV->Prop}{e elt kx vx target iter fJ:Expr}{x op x0 x1:Str}{f J:Nat->Nat}{pos pos' np px nA py r7:f0}{hs:Int}{y lo hi:Option Nat}{M:Model}{as:List Arg}{kindOf:Str->Option mR}{items:Array Value}{ts ifs lO:List Expr}{scope cs sc:Scope}{L:List (Nat×Str)}{gens:List qJ}{nd:Str×List Nat}{ops:List (Str×List Nat)}{bs wt row mk:List Nat}{V:List (Nat×Option Nat)}{owner:Array (Option Nat)}{S:aL}{Kn:List ((Str×List Nat)×Nat)}{ls:List (List Nat)}
section
@[elab_as_elim] theorem aa{α:Sort _}{a b:α}{p:α->Prop}(h:a=b)(x:p b):p a:=by cases h;exact x
@[elab_as_elim] theorem aQ{α:Sort _}{a b:α}{p:α->Prop}(h:a=b)(x:p a):p b:=by cases h;exact x
theorem ff{P:Prop}(h:aq=ag):P:=NW h
theorem ft{P:Prop}(h:ag=aq):P:=NW h
theorem ns{α:Type _}{a:α}{P:Prop}(h:ai=ae a):P:=nomatch h
theorem sn{α:Type _}{a:α}{P:Prop}(h:ae a=ai):P:=nomatch h
theorem so{α:Type _}{a b:α}(h:ae a=ae b):a=b:=mQ h
theorem fw{α:Sort _}{a b:α}:(if ag=ag then a else b)=a:=rfl
theorem dy{α:Sort _}{a b:α}:(if aq=ag then a else b)=b:=rfl
theorem te{α:Type _}{β:Type _}{γ:Type _}[DecidableEq α]{k:α}{p:α×β}{l:List (α×β)}{f:α×β->γ}(h:p.1=k):ur f ((p::l).find? λx=>decide (x.1=k))=ae (f p):=congrArg (ur f) (Of (decide_eq_true h))
theorem tf{α:Type _}{β:Type _}{γ:Type _}[DecidableEq α]{k:α}{p:α×β}{l:List (α×β)}{f:α×β->γ}(h:¬p.1=k):ur f ((p::l).find? λx=>decide (x.1=k))=ur f (l.find? λx=>decide (x.1=k)):=congrArg (ur f) (Oe λe=>h (of_decide_eq_true e))
theorem Jt{α:Type _}{β:Type _}[DecidableEq α]{k:α}{p:α×β}{l:List (α×β)}(h:p.1=k):((p::l).filter λx=>decide (x.1≠k))=l.filter λx=>decide (x.1≠k):=Ob λe=>of_decide_eq_true e h
theorem Ju{α:Type _}{β:Type _}[DecidableEq α]{k:α}{p:α×β}{l:List (α×β)}(h:¬p.1=k):((p::l).filter λx=>decide (x.1≠k))=p::l.filter λx=>decide (x.1≠k):=Oc (decide_eq_true h)
theorem bl{a b:Bool}:(a&&b)=ag->a=ag:=λh=>by cases a with|true=>rfl|false=>exact h
theorem br{a b:Bool}:(a&&b)=ag->b=ag:=λh=>by cases a with|true=>exact h|false=>exact ff h
theorem bb{a b:Bool}(h:a=ag)(k:b=ag):(a&&b)=ag:=by rw[h];exact k
theorem aK{Q:Prop}(h:p0/\p1)(f:p0->p1->Q):Q:=f h.1 h.2
theorem eB{Q:Prop}(h:p0/\p1/\p2)(f:p0->p1->p2->Q):Q:=f h.1 h.2.1 h.2.2
theorem mJ{Q:Prop}(h:p0/\p1/\p2/\p3)(f:p0->p1->p2->p3->Q):Q:=f h.1 h.2.1 h.2.2.1 h.2.2.2
theorem lY{Q:Prop}(h:p0/\p1/\p2/\p3/\p4)(f:p0->p1->p2->p3->p4->Q):Q:=f h.1 h.2.1 h.2.2.1 h.2.2.2.1 h.2.2.2.2
theorem t6{p5:Prop}{Q:Prop}(h:p0/\p1/\p2/\p3/\p4/\p5)(f:p0->p1->p2->p3->p4->p5->Q):Q:=f h.1 h.2.1 h.2.2.1 h.2.2.2.1 h.2.2.2.2.1 h.2.2.2.2.2
theorem agt{p5 p6:Prop}{Q:Prop}(h:p0/\p1/\p2/\p3/\p4/\p5/\p6)(f:p0->p1->p2->p3->p4->p5->p6->Q):Q:=f h.1 h.2.1 h.2.2.1 h.2.2.2.1 h.2.2.2.2.1 h.2.2.2.2.2.1 h.2.2.2.2.2.2
theorem aM{t0:Sort _}{p0:t0->Prop}{Q:Prop}(h:∃v0,p0 v0)(f:∀v0,p0 v0->Q):Q:=h.elim λv0 h=>f v0 h
theorem ay{t0:Sort _}{p0 p1:t0->Prop}{Q:Prop}(h:∃v0,p0 v0/\p1 v0)(f:∀v0,p0 v0->p1 v0->Q):Q:=h.elim λv0 h=>f v0 h.1 h.2
theorem cb{t0:Sort _}{p0 p1 p2:t0->Prop}{Q:Prop}(h:∃v0,p0 v0/\p1 v0/\p2 v0)(f:∀v0,p0 v0->p1 v0->p2 v0->Q):Q:=h.elim λv0 h=>f v0 h.1 h.2.1 h.2.2
theorem Au{t0:Sort _}{p0 p1 p2 p3 p4:t0->Prop}{Q:Prop}(h:∃v0,p0 v0/\p1 v0/\p2 v0/\p3 v0/\p4 v0)(f:∀v0,p0 v0->p1 v0->p2 v0->p3 v0->p4 v0->Q):Q:=h.elim λv0 h=>f v0 h.1 h.2.1 h.2.2.1 h.2.2.2.1 h.2.2.2.2
theorem eC{t0:Sort _}{t1:Sort _}{p0:t0->t1->Prop}{Q:Prop}(h:∃v0 v1,p0 v0 v1)(f:∀v0 v1,p0 v0 v1->Q):Q:=h.elim λv0 h=>h.elim λv1 h=>f v0 v1 h
theorem cZ{t0:Sort _}{t1:Sort _}{p0 p1:t0->t1->Prop}{Q:Prop}(h:∃v0 v1,p0 v0 v1/\p1 v0 v1)(f:∀v0 v1,p0 v0 v1->p1 v0 v1->Q):Q:=h.elim λv0 h=>h.elim λv1 h=>f v0 v1 h.1 h.2
theorem kC{t0:Sort _}{t1:Sort _}{p0 p1 p2:t0->t1->Prop}{Q:Prop}(h:∃v0 v1,p0 v0 v1/\p1 v0 v1/\p2 v0 v1)(f:∀v0 v1,p0 v0 v1->p1 v0 v1->p2 v0 v1->Q):Q:=h.elim λv0 h=>h.elim λv1 h=>f v0 v1 h.1 h.2.1 h.2.2
theorem NG{t0:Sort _}{t1:Sort _}{p0 p1 p2 p3:t0->t1->Prop}{Q:Prop}(h:∃v0 v1,p0 v0 v1/\p1 v0 v1/\p2 v0 v1/\p3 v0 v1)(f:∀v0 v1,p0 v0 v1->p1 v0 v1->p2 v0 v1->p3 v0 v1->Q):Q:=h.elim λv0 h=>h.elim λv1 h=>f v0 v1 h.1 h.2.1 h.2.2.1 h.2.2.2
theorem NH{t0:Sort _}{t1:Sort _}{p0 p1 p2 p3 p4:t0->t1->Prop}{Q:Prop}(h:∃v0 v1,p0 v0 v1/\p1 v0 v1/\p2 v0 v1/\p3 v0 v1/\p4 v0 v1)(f:∀v0 v1,p0 v0 v1->p1 v0 v1->p2 v0 v1->p3 v0 v1->p4 v0 v1->Q):Q:=h.elim λv0 h=>h.elim λv1 h=>f v0 v1 h.1 h.2.1 h.2.2.1 h.2.2.2.1 h.2.2.2.2
theorem NK{t0:Sort _}{t1:Sort _}{p0 p1 p2 p3 p4 p5:t0->t1->Prop}{Q:Prop}(h:∃v0 v1,p0 v0 v1/\p1 v0 v1/\p2 v0 v1/\p3 v0 v1/\p4 v0 v1/\p5 v0 v1)(f:∀v0 v1,p0 v0 v1->p1 v0 v1->p2 v0 v1->p3 v0 v1->p4 v0 v1->p5 v0 v1->Q):Q:=h.elim λv0 h=>h.elim λv1 h=>f v0 v1 h.1 h.2.1 h.2.2.1 h.2.2.2.1 h.2.2.2.2.1 h.2.2.2.2.2
theorem dU{t0:Sort _}{t1:Sort _}{t2:Sort _}{p0:t0->t1->t2->Prop}{Q:Prop}(h:∃v0 v1 v2,p0 v0 v1 v2)(f:∀v0 v1 v2,p0 v0 v1 v2->Q):Q:=h.elim λv0 h=>h.elim λv1 h=>h.elim λv2 h=>f v0 v1 v2 h
theorem fL{t0:Sort _}{t1:Sort _}{t2:Sort _}{p0 p1:t0->t1->t2->Prop}{Q:Prop}(h:∃v0 v1 v2,p0 v0 v1 v2/\p1 v0 v1 v2)(f:∀v0 v1 v2,p0 v0 v1 v2->p1 v0 v1 v2->Q):Q:=h.elim λv0 h=>h.elim λv1 h=>h.elim λv2 h=>f v0 v1 v2 h.1 h.2
theorem t7{t0:Sort _}{t1:Sort _}{t2:Sort _}{p0 p1 p2:t0->t1->t2->Prop}{Q:Prop}(h:∃v0 v1 v2,p0 v0 v1 v2/\p1 v0 v1 v2/\p2 v0 v1 v2)(f:∀v0 v1 v2,p0 v0 v1 v2->p1 v0 v1 v2->p2 v0 v1 v2->Q):Q:=h.elim λv0 h=>h.elim λv1 h=>h.elim λv2 h=>f v0 v1 v2 h.1 h.2.1 h.2.2
theorem se{t0:Sort _}{t1:Sort _}{t2:Sort _}{p0 p1 p2 p3:t0->t1->t2->Prop}{Q:Prop}(h:∃v0 v1 v2,p0 v0 v1 v2/\p1 v0 v1 v2/\p2 v0 v1 v2/\p3 v0 v1 v2)(f:∀v0 v1 v2,p0 v0 v1 v2->p1 v0 v1 v2->p2 v0 v1 v2->p3 v0 v1 v2->Q):Q:=h.elim λv0 h=>h.elim λv1 h=>h.elim λv2 h=>f v0 v1 v2 h.1 h.2.1 h.2.2.1 h.2.2.2
theorem agu{t0:Sort _}{t1:Sort _}{t2:Sort _}{p0 p1 p2 p3 p4:t0->t1->t2->Prop}{Q:Prop}(h:∃v0 v1 v2,p0 v0 v1 v2/\p1 v0 v1 v2/\p2 v0 v1 v2/\p3 v0 v1 v2/\p4 v0 v1 v2)(f:∀v0 v1 v2,p0 v0 v1 v2->p1 v0 v1 v2->p2 v0 v1 v2->p3 v0 v1 v2->p4 v0 v1 v2->Q):Q:=h.elim λv0 h=>h.elim λv1 h=>h.elim λv2 h=>f v0 v1 v2 h.1 h.2.1 h.2.2.1 h.2.2.2.1 h.2.2.2.2
theorem NL{t0:Sort _}{t1:Sort _}{t2:Sort _}{p0 p1 p2 p3 p4 p5:t0->t1->t2->Prop}{Q:Prop}(h:∃v0 v1 v2,p0 v0 v1 v2/\p1 v0 v1 v2/\p2 v0 v1 v2/\p3 v0 v1 v2/\p4 v0 v1 v2/\p5 v0 v1 v2)(f:∀v0 v1 v2,p0 v0 v1 v2->p1 v0 v1 v2->p2 v0 v1 v2->p3 v0 v1 v2->p4 v0 v1 v2->p5 v0 v1 v2->Q):Q:=h.elim λv0 h=>h.elim λv1 h=>h.elim λv2 h=>f v0 v1 v2 h.1 h.2.1 h.2.2.1 h.2.2.2.1 h.2.2.2.2.1 h.2.2.2.2.2
theorem agv{t0:Sort _}{t1:Sort _}{t2:Sort _}{p0 p1 p2 p3 p4 p5 p6:t0->t1->t2->Prop}{Q:Prop}(h:∃v0 v1 v2,p0 v0 v1 v2/\p1 v0 v1 v2/\p2 v0 v1 v2/\p3 v0 v1 v2/\p4 v0 v1 v2/\p5 v0 v1 v2/\p6 v0 v1 v2)(f:∀v0 v1 v2,p0 v0 v1 v2->p1 v0 v1 v2->p2 v0 v1 v2->p3 v0 v1 v2->p4 v0 v1 v2->p5 v0 v1 v2->p6 v0 v1 v2->Q):Q:=h.elim λv0 h=>h.elim λv1 h=>h.elim λv2 h=>f v0 v1 v2 h.1 h.2.1 h.2.2.1 h.2.2.2.1 h.2.2.2.2.1 h.2.2.2.2.2.1 h.2.2.2.2.2.2
theorem oN{t0:Sort _}{t1:Sort _}{t2:Sort _}{t3:Sort _}{p0:t0->t1->t2->t3->Prop}{Q:Prop}(h:∃v0 v1 v2 v3,p0 v0 v1 v2 v3)(f:∀v0 v1 v2 v3,p0 v0 v1 v2 v3->Q):Q:=h.elim λv0 h=>h.elim λv1 h=>h.elim λv2 h=>h.elim λv3 h=>f v0 v1 v2 v3 h
theorem wR{t0:Sort _}{t1:Sort _}{t2:Sort _}{t3:Sort _}{p0 p1:t0->t1->t2->t3->Prop}{Q:Prop}(h:∃v0 v1 v2 v3,p0 v0 v1 v2 v3/\p1 v0 v1 v2 v3)(f:∀v0 v1 v2 v3,p0 v0 v1 v2 v3->p1 v0 v1 v2 v3->Q):Q:=h.elim λv0 h=>h.elim λv1 h=>h.elim λv2 h=>h.elim λv3 h=>f v0 v1 v2 v3 h.1 h.2
theorem agw{t0:Sort _}{t1:Sort _}{t2:Sort _}{t3:Sort _}{t4:Sort _}{p0:t0->t1->t2->t3->t4->Prop}{Q:Prop}(h:∃v0 v1 v2 v3 v4,p0 v0 v1 v2 v3 v4)(f:∀v0 v1 v2 v3 v4,p0 v0 v1 v2 v3 v4->Q):Q:=h.elim λv0 h=>h.elim λv1 h=>h.elim λv2 h=>h.elim λv3 h=>h.elim λv4 h=>f v0 v1 v2 v3 v4 h
theorem Av{t0:Sort _}{t1:Sort _}{t2:Sort _}{t3:Sort _}{t4:Sort _}{p0 p1:t0->t1->t2->t3->t4->Prop}{Q:Prop}(h:∃v0 v1 v2 v3 v4,p0 v0 v1 v2 v3 v4/\p1 v0 v1 v2 v3 v4)(f:∀v0 v1 v2 v3 v4,p0 v0 v1 v2 v3 v4->p1 v0 v1 v2 v3 v4->Q):Q:=h.elim λv0 h=>h.elim λv1 h=>h.elim λv2 h=>h.elim λv3 h=>h.elim λv4 h=>f v0 v1 v2 v3 v4 h.1 h.2
theorem agx{t0:Sort _}{t1:Sort _}{t2:Sort _}{t3:Sort _}{t4:Sort _}{p0 p1 p2:t0->t1->t2->t3->t4->Prop}{Q:Prop}(h:∃v0 v1 v2 v3 v4,p0 v0 v1 v2 v3 v4/\p1 v0 v1 v2 v3 v4/\p2 v0 v1 v2 v3 v4)(f:∀v0 v1 v2 v3 v4,p0 v0 v1 v2 v3 v4->p1 v0 v1 v2 v3 v4->p2 v0 v1 v2 v3 v4->Q):Q:=h.elim λv0 h=>h.elim λv1 h=>h.elim λv2 h=>h.elim λv3 h=>h.elim λv4 h=>f v0 v1 v2 v3 v4 h.1 h.2.1 h.2.2
theorem Aw{t0:Sort _}{t1:Sort _}{t2:Sort _}{t3:Sort _}{t4:Sort _}{t5:Sort _}{p0:t0->t1->t2->t3->t4->t5->Prop}{Q:Prop}(h:∃v0 v1 v2 v3 v4 v5,p0 v0 v1 v2 v3 v4 v5)(f:∀v0 v1 v2 v3 v4 v5,p0 v0 v1 v2 v3 v4 v5->Q):Q:=h.elim λv0 h=>h.elim λv1 h=>h.elim λv2 h=>h.elim λv3 h=>h.elim λv4 h=>h.elim λv5 h=>f v0 v1 v2 v3 v4 v5 h
theorem VE{Q:Prop}(h:(b1&&b2&&b3)=ag)(f:b1=ag->b2=ag->b3=ag->Q):Q:=f (bl (bl h)) (br (bl h)) (br h)
theorem VF{Q:Prop}(h:(b1&&b2&&b3&&b4)=ag)(f:b1=ag->b2=ag->b3=ag->b4=ag->Q):Q:=f (bl (bl (bl h))) (br (bl (bl h))) (br (bl h)) (br h)
theorem VG{Q:Prop}(h:(b1&&b2&&b3&&b4&&b5)=ag)(f:b1=ag->b2=ag->b3=ag->b4=ag->b5=ag->Q):Q:=f (bl (bl (bl (bl h)))) (br (bl (bl (bl h)))) (br (bl (bl h))) (br (bl h)) (br h)
theorem VH{Q:Prop}(h:(b1&&b2&&b3&&b4&&b5&&b6)=ag)(f:b1=ag->b2=ag->b3=ag->b4=ag->b5=ag->b6=ag->Q):Q:=f (bl (bl (bl (bl (bl h))))) (br (bl (bl (bl (bl h))))) (br (bl (bl (bl h)))) (br (bl (bl h))) (br (bl h)) (br h)
theorem VI{b7:Bool}{Q:Prop}(h:(b1&&b2&&b3&&b4&&b5&&b6&&b7)=ag)(f:b1=ag->b2=ag->b3=ag->b4=ag->b5=ag->b6=ag->b7=ag->Q):Q:=f (bl (bl (bl (bl (bl (bl h)))))) (br (bl (bl (bl (bl (bl h)))))) (br (bl (bl (bl (bl h))))) (br (bl (bl (bl h)))) (br (bl (bl h))) (br (bl h)) (br h)
theorem VD{b7 b8 b9 yq yr yt IC ID:Bool}{Q:Prop}(h:(b1&&b2&&b3&&b4&&b5&&b6&&b7&&b8&&b9&&yq&&yr&&yt&&IC&&ID)=ag)(f:b1=ag->b2=ag->b3=ag->b4=ag->b5=ag->b6=ag->b7=ag->b8=ag->b9=ag->yq=ag->yr=ag->yt=ag->IC=ag->ID=ag->Q):Q:=f (bl (bl (bl (bl (bl (bl (bl (bl (bl (bl (bl (bl (bl h))))))))))))) (br (bl (bl (bl (bl (bl (bl (bl (bl (bl (bl (bl (bl h))))))))))))) (br (bl (bl (bl (bl (bl (bl (bl (bl (bl (bl (bl h)))))))))))) (br (bl (bl (bl (bl (bl (bl (bl (bl (bl (bl h))))))))))) (br (bl (bl (bl (bl (bl (bl (bl (bl (bl h)))))))))) (br (bl (bl (bl (bl (bl (bl (bl (bl h))))))))) (br (bl (bl (bl (bl (bl (bl (bl h)))))))) (br (bl (bl (bl (bl (bl (bl h))))))) (br (bl (bl (bl (bl (bl h)))))) (br (bl (bl (bl (bl h))))) (br (bl (bl (bl h)))) (br (bl (bl h))) (br (bl h)) (br h)
theorem nt{b:Bool}(h:(!b)=ag):b=aq:=by cases b with|true=>exact ff h|false=>rfl
theorem u0{α:Type _}[BEq α][LawfulBEq α]{a b:α}(h:(a !=b)=ag):a≠b:=bne_iff_ne.mp h
theorem MU{α:Type _}{l:List α}{a b:α}:(l++[a]).set l.length b=l++[b]:=by
 induction l with
 |nil=>rfl
 |cons x l ih=>exact congrArg (x:: ·) ih
theorem getD_some{α:Type _}{l:List α}{d:α}(h:i<l.length):l[i]? =ae (l.getD i d):=by
 rw[da,bV h];rfl
theorem getD_get{α:Type _}{l:List α}{d:α}(h:i<l.length):l.getD i d=l[i]:=by
 rw[da,bV h];rfl
theorem map_getD{α β:Type _}{f:α->β}{l:List α}{d:α}(h:i<l.length):(l.map f)[i]? =ae (f (l.getD i d)):=by
 rw[dB,getD_some h];rfl
theorem EI{β:Type _}{f:Nat->β}{n:Nat}(h:i<n):((bw n).map f)[i]? =ae (f i):=by
 rw[dB,xb h];rfl
theorem vU{α:Sort _}{a b:α}:(if(!ag)=ag then a else b)=b:=rfl
theorem K3{α:Sort _}{a b:α}:(if(!aq)=ag then a else b)=a:=rfl
theorem Cd{α:Type _}{xs:Array α}{d:α}(h:i<xs.size):xs.getD i d=xs[i]:=by simp[kF,h]
end
section
set_option genSizeOf false
set_option genSizeOfSpec false
set_option genInjectivity false
set_option genCtorIdx false in
inductive E where
 |v (i:Nat)|n (k:Nat)|a (x y:E)|m (k:Nat) (x:E)|mr (x:E) (k:Nat)
noncomputable def E.ev(c:List Nat):E->Nat
 |.v i=>c.getD i 0
 |.n k=>k
 |.a x y=>x.ev c+y.ev c
 |.m k x=>k*x.ev c
 |.mr x k=>x.ev c*k
noncomputable def rd:List Nat->List Nat->List Nat
 |[],ys=>ys
 |x::xs,[]=>x::xs
 |x::xs,y::ys=>(x+y)::rd xs ys
noncomputable def mulL(k:Nat):List Nat->List Nat
 |[]=>[]
 |x::xs=>(k*x)::mulL k xs
noncomputable def wN:Nat->List Nat
 |0=>[1]
 |i+1=>0::wN i
noncomputable def E.mB:E->List Nat
 |.v i=>0::wN i
 |.n k=>[k]
 |.a x y=>rd x.mB y.mB
 |.m k x=>mulL k x.mB
 |.mr x k=>mulL k x.mB
noncomputable def eF:List Nat->List Nat->Nat
 |x::xs,c::cs=>x*c+eF xs cs
 |_,_=>0
noncomputable def zJ:List Nat->List Nat->Bool
 |[],_=>ag
 |x::xs,[]=>AM x 0&&zJ xs []
 |x::xs,y::ys=>AM x y&&zJ xs ys
noncomputable def CX:List Nat->List Nat->Bool
 |[],_=>aq
 |l::ls,[]=>AM 1 l
 |l::ls,r::rs=>AM (r+1) l&&zJ rs ls
noncomputable def B9:List Nat->List (Nat×E×E)->List Nat
 |L,[]=>L
 |L,(k,l,_)::hs=>B9 (rd (mulL k l.mB) L) hs
noncomputable def Ca:List Nat->List (Nat×E×E)->List Nat
 |L,[]=>L
 |L,(k,_,r)::hs=>Ca (rd (mulL k r.mB) L) hs
noncomputable def DI(c:List Nat):List (Nat×E×E)->Prop
 |[]=>False
 |(_,l,r)::hs=>l.ev c<=r.ev c->DI c hs
theorem yJ:∀(xs ys c:List Nat),eF (rd xs ys) c=eF xs c+eF ys c
 |[],ys,c=>by cases c<;>exact(sA _).symm
 |x::xs,[],[]=>rfl
 |x::xs,[],c::cs=>rfl
 |x::xs,y::ys,[]=>rfl
 |x::xs,y::ys,c::cs=>by
  refine(?_:(x+y)*c+eF (rd xs ys) cs=x*c+eF xs cs+(y*c+eF ys cs))
  (rewrite[yJ xs ys cs];rewrite[Nat.add_mul]);exact Nat.add_add_add_comm _ _ _ _
theorem vc(k:Nat):∀(xs c:List Nat),eF (mulL k xs) c=k*eF xs c
 |[],c=>by cases c<;>rfl
 |x::xs,[]=>rfl
 |x::xs,c::cs=>by
  refine(?_:k*x*c+eF (mulL k xs) cs=k*(x*c+eF xs cs))
  (rewrite[vc k xs cs];rewrite[Nat.mul_add];rewrite[OJ];rfl)
theorem Jc:∀(i:Nat) (c:List Nat),eF (wN i) c=c.getD i 0
 |0,[]=>rfl
 |0,c::cs=>by cases cs<;>exact Nat.one_mul c
 |i+1,[]=>rfl
 |i+1,c::cs=>by
  refine(?_:0*c+eF (wN i) cs=cs.getD i 0)
  (rewrite[Jc i cs];rewrite[Nat.zero_mul];rewrite[sA];rfl)
theorem tI(c:List Nat):∀e:E,eF e.mB (1::c)=e.ev c
 |.v i=>by
  refine(?_:0*1+eF (wN i) c=c.getD i 0);rewrite[Jc];exact sA _
 |.n k=>by
  refine(?_:k*1+eF [] c=k);cases c<;>exact Nat.mul_one k
 |.a x y=>by
  refine(?_:eF (rd x.mB y.mB) _=x.ev c+y.ev c)
  (rewrite[yJ];rewrite[tI c x];rewrite[tI c y];rfl)
 |.m k x=>by
  refine(?_:eF (mulL k x.mB) _=k*x.ev c)
  (rewrite[vc];rewrite[tI c x];rfl)
 |.mr x k=>by
  refine(?_:eF (mulL k x.mB) _=x.ev c*k)
  (rewrite[vc];rewrite[tI c x];rewrite[Nat.mul_comm];rfl)
theorem DS:∀{xs ys:List Nat} (c:List Nat),zJ xs ys=ag->eF xs c<=eF ys c
 |[],ys,c,_=>by cases c<;>exact cJ _
 |x::xs,ys,[],_=>cJ _
 |x::xs,[],c::cs,h=>by
  have h:=(mM _ _).mp h
  have h1:=DS cs h.2;refine(?_:x*c+eF xs cs<=0)
  (rewrite[(Nat.le_zero.mp (bR h.1))];rewrite[Nat.zero_mul];rewrite[sA])
  cases cs<;>exact h1
 |x::xs,y::ys,c::cs,h=>by
  have h:=(mM _ _).mp h;exact OD (OK c (bR h.1)) (DS cs h.2)
theorem Y0{l r:List Nat}(c:List Nat)(h:CX l r=ag):eF r (1::c)<eF l (1::c):=by
 cases l with
 |nil=>exact nomatch h
 |cons x xs=>cases r with
  |nil=>
   refine(?_:0<x*1+eF xs c)
   have:=bR h;omega
  |cons y ys=>
   have h:=(mM _ _).mp h;refine(?_:y*1+eF ys c<x*1+eF xs c)
   have h1:=bR h.1
   have h2:=DS c h.2;omega
theorem Jr(c:List Nat):∀(hs:List (Nat×E×E)) (L R:List Nat),eF L (1::c)<=eF R (1::c)->CX (B9 L hs) (Ca R hs)=ag->DI c hs
 |[],L,R,h,g=>jV _ (xd h (Y0 c g))
 |(k,l,r)::hs,L,R,h,g=>λhl=>Jr c hs _ _ (by
    (rewrite[yJ];rewrite[yJ];rewrite[vc];rewrite[vc];rewrite[tI];rewrite[tI])
    exact OD (Nat.mul_le_mul_left k hl) h) g
theorem ah(c:List Nat)(hs:List (Nat×E×E))(g:CX (B9 [] hs) (Ca [] hs)=ag):DI c hs:=Jr c hs [] [] (bj _) g
theorem s1(a b:Nat):a<=a - b+b:=Nat.le_add_of_sub_le (bj _)
theorem s3(h:b<=a):a - b+b<=a:=au (Nat.sub_add_cancel h)
theorem s4(h:a<=b):a - b<=0:=au (Nat.sub_eq_zero_of_le h)
theorem d2(a:Nat):a<2*(a/2)+2:=Nat.lt_mul_div_succ a (by decide)
noncomputable abbrev v0:E:=.v 0
noncomputable abbrev v1:E:=.v 1
noncomputable abbrev v2:E:=.v 2
noncomputable abbrev v3:E:=.v 3
noncomputable abbrev v4:E:=.v 4
noncomputable abbrev v5:E:=.v 5
noncomputable abbrev v6:E:=.v 6
noncomputable def aA(x:E):E:=.a x (.n 1)
noncomputable def af(x y:E):Nat×E×E:=(1,x,y)
noncomputable def am(x y:E):Nat×E×E:=(1,.a x (.n 1),y)
variable{d f g l n o p q t u w:Nat}
theorem a1:a+3*(b+1)+5<c->a+3*b+5<c:=λh1=>aO λh=>ah [a,b,c] [af (.a (.a (.a v0 (.m 3 (aA v1))) (.n 5)) (.n 1)) v2,af v2 (.a (.a v0 (.m 3 v1)) (.n 5))] rfl h1 h
theorem a2:a+200+20*(b+1)<c->a+1+200+20*b<c:=λh1=>aO λh=>ah [a,b,c] [af (.a (.a (.a v0 (.n 200)) (.m 20 (aA v1))) (.n 1)) v2,af v2 (.a (.a (aA v0) (.n 200)) (.m 20 v1))] rfl h1 h
theorem a3:a<=b->c+3*b+5<d->c+3*a+5<d:=λh1 h2=>aO λh=>ah [a,b,c,d] [(3,v0,v1),af (.a (.a (.a v2 (.m 3 v1)) (.n 5)) (.n 1)) v3,af v3 (.a (.a v2 (.m 3 v0)) (.n 5))] rfl h1 h2 h
theorem a4:a<=b->c+200+20*b<d->c+200+20*a<d:=λh1 h2=>aO λh=>ah [a,b,c,d] [(20,v0,v1),af (.a (.a (.a v2 (.n 200)) (.m 20 v1)) (.n 1)) v3,af v3 (.a (.a v2 (.n 200)) (.m 20 v0))] rfl h1 h2 h
theorem a5:a+3*(b+1)+5<c->a+1+3*b+5<c:=λh1=>aO λh=>ah [a,b,c] [af (.a (.a (.a v0 (.m 3 (aA v1))) (.n 5)) (.n 1)) v2,af v2 (.a (.a (aA v0) (.m 3 v1)) (.n 5))] rfl h1 h
theorem a6:a+200+20*(b+1)<c->a+3+200+20*b<c:=λh1=>aO λh=>ah [a,b,c] [af (.a (.a (.a v0 (.n 200)) (.m 20 (aA v1))) (.n 1)) v2,af v2 (.a (.a (.a v0 (.n 3)) (.n 200)) (.m 20 v1))] rfl h1 h
theorem a7:a+200+20*b<c->a<c:=λh1=>aO λh=>ah [a,b,c] [af (.a (.a (.a v0 (.n 200)) (.m 20 v1)) (.n 1)) v2,af v2 v0] rfl h1 h
theorem a8:a+200+20*b<c->a+1<c:=λh1=>aO λh=>ah [a,b,c] [af (.a (.a (.a v0 (.n 200)) (.m 20 v1)) (.n 1)) v2,af v2 (aA v0)] rfl h1 h
theorem a9:a+200+20*b<c->a+64<c:=λh1=>aO λh=>ah [a,b,c] [af (.a (.a (.a v0 (.n 200)) (.m 20 v1)) (.n 1)) v2,af v2 (.a v0 (.n 64))] rfl h1 h
theorem Bz:a+3*b+5<c->a<c:=λh1=>aO λh=>ah [a,b,c] [af (.a (.a (.a v0 (.m 3 v1)) (.n 5)) (.n 1)) v2,af v2 v0] rfl h1 h
theorem xS:a+200+20*b<c->min d f<=60->a+min d f<c:=λh1 h2=>aO λh=>ah [a,b,c,d,f,(min d f)] [af (.a (.a (.a v0 (.n 200)) (.m 20 v1)) (.n 1)) v2,af v5 (.n 60),af v2 (.a v0 v5)] rfl h1 h2 h
theorem BC:a+100<b->min c d<=60->a+min c d<b:=λh1 h2=>aO λh=>ah [a,b,c,d,(min c d)] [af (.a (.a v0 (.n 100)) (.n 1)) v1,af v4 (.n 60),af v1 (.a v0 v4)] rfl h1 h2 h
theorem Qp:a<60->a+1<=64:=λh1=>ao λh=>ah [a] [am v0 (.n 60),af (.a (.n 64) (.n 1)) (aA v0)] rfl h1 h
theorem QD:a+b<=c->d=a->f=b->c<=g->d+f<=g:=λh1 h2 h3 h4=>ao λh=>ah [a,b,c,d,f,g] [af (.a v0 v1) v2,af v3 v0,af v4 v1,af v2 v5,am v5 (.a v3 v4)] rfl h1 (au h2) (au h3) h4 h
theorem gQ:a<=a+1:=ao λh=>ah [a] [af (.a (aA v0) (.n 1)) v0] rfl h
theorem QP:a=b->c=d->f<=g->b+d<=f->a+c<=g:=λh1 h2 h3 h4=>ao λh=>ah [a,b,c,d,f,g] [af v0 v1,af v2 v3,af v4 v5,af (.a v1 v3) v4,am v5 (.a v0 v2)] rfl (au h1) (au h2) h3 h4 h
theorem QW:a+b<=c->c<=d->a+b<=d:=λh1 h2=>ao λh=>ah [a,b,c,d] [af (.a v0 v1) v2,af v2 v3,am v3 (.a v0 v1)] rfl h1 h2 h
theorem Q0:3<=a->a<=1->False:=λh1 h2=>ah [a] [af (.n 3) v0,af v0 (.n 1)] rfl h1 h2
theorem Q8:a+200+20*b<c->a+1+100<c:=λh1=>aO λh=>ah [a,b,c] [af (.a (.a (.a v0 (.n 200)) (.m 20 v1)) (.n 1)) v2,af v2 (.a (aA v0) (.n 100))] rfl h1 h
theorem Rf:∀{x1:Int},0<=x1->¬x1<0:=by intros;omega
theorem Hn:∀{x1:Int} {x2:Nat},x1.toNat<x2->x1<(↑x2:Int):=λ{x1 x2} h=>wX (N2 _) (lw.mpr h)
theorem Ru:a=b->c<=d->b<=c->a<=d:=λh1 h2 h3=>ao λh=>ah [a,b,c,d] [af v0 v1,af v2 v3,af v1 v2,am v3 v0] rfl (au h1) h2 h3 h
theorem Hs:a<30->a<30:=λh1=>aO λh=>ah [a] [am v0 (.n 30),af (.n 30) v0] rfl h1 h
theorem RG:a=b+1->a<=b+1:=λh1=>ao λh=>ah [a,b] [af v0 (aA v1),af (.a (aA v1) (.n 1)) v0] rfl (au h1) h
theorem RL:a=b+1->b+1<=a+1:=λh1=>ao λh=>ah [a,b] [am v1 v0,af (.a (aA v0) (.n 1)) (aA v1)] rfl (au h1.symm) h
theorem ie:a=b->c<b->c<a:=λh1 h2=>aO λh=>ah [a,b,c] [af v1 v0,am v2 v1,af v0 v2] rfl (au h1.symm) h2 h
theorem RV:a=b->¬a>b:=λh1=>λh=>ah [a,b] [af v0 v1,am v1 v0] rfl (au h1) h
theorem x7:a<=b->a<=b+1:=λh1=>ao λh=>ah [a,b] [af v0 v1,af (.a (aA v1) (.n 1)) v0] rfl h1 h
theorem Sc: -2^62<=(↑a:Int):=wW (by decide) (qx _)
theorem Sm:a<2^31->(↑a:Int)<2^62:=λh=>oP (lw.mpr h) (by decide)
theorem HE:(↑a:Int) - 0=(↑a:Int):=Int.sub_zero _
theorem HF:¬0<(↑a:Int)->0=(↑a:Int):=λh=>(Int.le_antisymm (FJ.mp h) (qx _)).symm
theorem SR:a<=b->c=b->a>=c->a=c:=λh1 h2 h3=>cz (ao λh=>ah [a,b,c] [af v0 v1,af v1 v2,am v2 v0] rfl h1 (au h2.symm) h) (ao λh=>ah [a,b,c] [af v2 v0,am v0 v2] rfl h3 h)
theorem S0:0+(↑a:Int)*1=(↑a:Int):=(Int.zero_add _).trans (Int.mul_one _)
theorem S7:a<=b+1->a<=b+1:=λh1=>ao λh=>ah [a,b] [af v0 (aA v1),af (.a (aA v1) (.n 1)) v0] rfl h1 h
theorem Tg:a<=30->b<=a+1->b<=40:=λh1 h2=>ao λh=>ah [a,b] [af v0 (.n 30),af v1 (aA v0),af (.a (.n 40) (.n 1)) v1] rfl h1 h2 h
theorem Tu:a<=40->a<=16777216+1:=λh1=>ao λh=>ah [a] [af v0 (.n 40),af (.a (.a (.n 16777216) (.n 1)) (.n 1)) v0] rfl h1 h
theorem TD:(↑a:Int)<(↑b:Int)->a<b:=λh=>lw.mp h
theorem TL:∀{x1:Int} {x2 x3:Nat},x1.toNat<x2->x2<=x3->x3=1000000->x1<1000000:=λ{x1 x2 x3} h1 h2 h3=>wX (N2 _) (lw.mpr (iP h1 (dC h2 (au h3))))
theorem uP:a<b->c=a->b<=d->c<=d:=λh1 h2 h3=>ao λh=>ah [a,b,c,d] [am v0 v1,af v2 v0,af v1 v3,am v3 v2] rfl h1 (au h2) h3 h
theorem ye:a<b->c<=a+1->c<=b:=λh1 h2=>ao λh=>ah [a,b,c] [am v0 v1,af v2 (aA v0),am v1 v2] rfl h1 h2 h
theorem T6:a+0=b->b<=a:=λh1=>ao λh=>ah [a,b] [af v1 (.a v0 (.n 0)),am v0 v1] rfl (au h1.symm) h
theorem Ug:a+(b+1)=c->a<=c:=λh1=>ao λh=>ah [a,b,c] [af (.a v0 (aA v1)) v2,am v2 v0] rfl (au h1) h
theorem Uq:a+(b+1)=c->a+1+b=c:=λh1=>cz (ao λh=>ah [a,b,c] [af (.a v0 (aA v1)) v2,am v2 (.a (aA v0) v1)] rfl (au h1) h) (ao λh=>ah [a,b,c] [af v2 (.a v0 (aA v1)),af (.a (.a (aA v0) v1) (.n 1)) v2] rfl (au h1.symm) h)
theorem Uw:a+(b+1)=c->a<c:=λh1=>aO λh=>ah [a,b,c] [af (.a v0 (aA v1)) v2,af v2 v0] rfl (au h1) h
theorem BY:0+a=a:=cz (ao λh=>ah [a] [am v0 (.a (.n 0) v0)] rfl h) (ao λh=>ah [a] [af (.a (.a (.n 0) v0) (.n 1)) v0] rfl h)
theorem BZ:¬a<a:=λh=>ah [a] [am v0 v0] rfl h
theorem B0:a<b->b - (a+1)<b - a:=λh1=>aO λh=>ah [a,b,(b - a),(b - (a+1))] [af v2 v3,af v1 (.a v2 v0),af (.a v3 (aA v0)) v1] rfl h (s1 b a) (s3 (ao λhs=>ah [a,b,(b - a),(b - (a+1))] [am v0 v1,am v1 (aA v0)] rfl h1 hs))
theorem pA:a<b->a+1<=b:=λh1=>ao λh=>ah [a,b] [am v0 v1,am v1 (aA v0)] rfl h1 h
theorem US:a+1<=a->False:=λh1=>ah [a] [am v0 v0] rfl h1
theorem yf:a+1<=b->a<=b:=λh1=>ao λh=>ah [a,b] [am v0 v1,am v1 v0] rfl h1 h
theorem UT:a<b\/b<a->a≠b:=λh1=>λh=>h1.elim (λk1=>ah [a,b] [af v1 v0,am v0 v1] rfl (au h.symm) k1) (λk1=>ah [a,b] [af v0 v1,am v1 v0] rfl (au h) k1)
theorem UU:a=b+1->c=b+2->d<a->d=c->False:=λh1 h2 h3 h4=>ah [a,b,c,d] [af v0 (aA v1),af (.a v1 (.n 2)) v2,am v3 v0,af v2 v3] rfl (au h1) (au h2.symm) h3 (au h4.symm)
theorem UV:a=b+1->c=b+2->a<c\/c<a:=λh1 h2=> .inl (aO λh=>ah [a,b,c] [af v0 (aA v1),af (.a v1 (.n 2)) v2,af v2 v0] rfl (au h1) (au h2.symm) h)
theorem UW:a=b+1->c=b+3->a<=c:=λh1 h2=>ao λh=>ah [a,b,c] [af v0 (aA v1),af (.a v1 (.n 3)) v2,am v2 v0] rfl (au h1) (au h2.symm) h
theorem Ia:a=b+1->c=b+2->c<a\/a<c:=λh1 h2=> .inr (aO λh=>ah [a,b,c] [af v0 (aA v1),af (.a v1 (.n 2)) v2,af v2 v0] rfl (au h1) (au h2.symm) h)
theorem UX:a=b+1->c=b+2->c<a->False:=λh1 h2 h3=>ah [a,b,c] [af v0 (aA v1),af (.a v1 (.n 2)) v2,am v2 v0] rfl (au h1) (au h2.symm) h3
theorem UY:a=b+1->b<a\/a<b:=λh1=> .inl (aO λh=>ah [a,b] [am v1 v0,af v0 v1] rfl (au h1.symm) h)
theorem Ib:a=b+2->c<=b->c<=a:=λh1 h2=>ao λh=>ah [a,b,c] [af (.a v1 (.n 2)) v0,af v2 v1,am v0 v2] rfl (au h1.symm) h2 h
theorem UZ:a=b+2->c<b->c<a\/a<c:=λh1 h2=> .inl (aO λh=>ah [a,b,c] [af (.a v1 (.n 2)) v0,am v2 v1,af v0 v2] rfl (au h1.symm) h2 h)
theorem U0:a=b+1->c<=b->c<=a:=λh1 h2=>ao λh=>ah [a,b,c] [am v1 v0,af v2 v1,am v0 v2] rfl (au h1.symm) h2 h
theorem U1:a=b+1->c=b+2->d=c->d<a\/a<d:=λh1 h2 h3=> .inr (aO λh=>ah [a,b,c,d] [af v0 (aA v1),af (.a v1 (.n 2)) v2,af v2 v3,af v3 v0] rfl (au h1) (au h2.symm) (au h3.symm) h)
theorem U2:a=b+1->c<b->c<a\/a<c:=λh1 h2=> .inl (aO λh=>ah [a,b,c] [am v1 v0,am v2 v1,af v0 v2] rfl (au h1.symm) h2 h)
theorem U3:a=b+1->a<b\/b<a:=λh1=> .inr (aO λh=>ah [a,b] [am v1 v0,af v0 v1] rfl (au h1.symm) h)
theorem U4:a=b+2->c=a->c<b\/b<c:=λh1 h2=> .inr (aO λh=>ah [a,b,c] [af (.a v1 (.n 2)) v0,af v0 v2,af v2 v1] rfl (au h1.symm) (au h2.symm) h)
theorem B1:a<b->a<b\/b<a:=λh1=> .inl (aO λh=>ah [a,b] [am v0 v1,af v1 v0] rfl h1 h)
theorem U5:a=b+2->c<b->c=a->False:=λh1 h2 h3=>ah [a,b,c] [af (.a v1 (.n 2)) v0,am v2 v1,af v0 v2] rfl (au h1.symm) h2 (au h3.symm)
theorem U6:a=b+1->c<b->c=a->False:=λh1 h2 h3=>ah [a,b,c] [am v1 v0,am v2 v1,af v0 v2] rfl (au h1.symm) h2 (au h3.symm)
theorem U7:a=b+1->b<=a:=λh1=>ao λh=>ah [a,b] [am v1 v0,am v0 v1] rfl (au h1.symm) h
theorem U8:a<=b->b=1000000->¬(↑a:Int)>=2^63:=λh k=>FI.mpr (wX (ue.mpr (dC h (au k))) (by decide))
theorem Ic:∀{x1 x2:Nat},x1<=x2->x2=1000000->(↑x1:Int)<2^63:=by intros;omega
theorem Ie:a<=b->b<=c->a<=c:=λh1 h2=>ao λh=>ah [a,b,c] [af v0 v1,af v1 v2,am v2 v0] rfl h1 h2 h
theorem U9:∀{x1 x2:Int},¬x1<=x2->x2<=x1:=λ{x1 x2} h=>Int.le_of_lt (FI.mp h)
theorem Ig:a<64->b=a->b<64:=λh1 h2=>aO λh=>ah [a,b] [am v0 (.n 64),af v1 v0,af (.n 64) v1] rfl h1 (au h2) h
theorem Ih:a<64->a<=1000000:=λh1=>ao λh=>ah [a] [am v0 (.n 64),af (.a (.n 1000000) (.n 1)) v0] rfl h1 h
theorem Ii:a<64->b=a->c<=d->c=1000000->b<=d:=λh1 h2 h3 h4=>ao λh=>ah [a,b,c,d] [am v0 (.n 64),af v1 v0,af v2 v3,af (.n 1000000) v2,am v3 v1] rfl h1 (au h2) h3 (au h4.symm) h
theorem Va:a<=b->b=1000000->a<=2^24:=λh1 h2=>ao λh=>ah [a,b] [af v0 v1,af v1 (.n 1000000),af (.a (.n 16777216) (.n 1)) v0] rfl h1 (au h2) h
theorem Vb:(↑a:Int)<1000000000->a<2^31:=λh=>gO (lw.mp h) (by decide)
theorem Ij:∀{x1:Int},x1.natAbs>0->x1.natAbs≠0:=λ{x1} h=>xi h
theorem Ik:∀{x1:Int},x1.natAbs<1000000000->x1.natAbs<2^30:=λ{x1} h=>gO h (by decide)
theorem Il:a<30->a<1920:=λh1=>aO λh=>ah [a] [am v0 (.n 30),af (.n 1920) v0] rfl h1 h
theorem Im:a+1<=b->a<b:=λh1=>aO λh=>ah [a,b] [am v0 v1,af v1 v0] rfl h1 h
theorem Vd:a=b->0<b->0<a:=λh1 h2=>aO λh=>ah [a,b] [af v1 v0,af (.a (.n 0) (.n 1)) v1,af v0 (.n 0)] rfl (au h1.symm) h2 h
theorem Ve:a=b->0<b->c<=a - 1->c<b:=λh1 h2 h3=>aO λh=>ah [a,b,c,(a - 1)] [af v0 v1,af v2 v3,af v1 v2,am v3 v0] rfl (au h1) h3 h (s3 (ao λhs=>ah [a,b,c,(a - 1)] [af v1 v0,af (.a (.n 0) (.n 1)) v1,am v0 (.n 1)] rfl (au h1.symm) h2 hs))
theorem B2:a<b->b<=c->a<=c:=λh1 h2=>ao λh=>ah [a,b,c] [am v0 v1,af v1 v2,am v2 v0] rfl h1 h2 h
theorem Vf:a+b<=c->c=1000000->a+b<=1000000:=λh1 h2=>ao λh=>ah [a,b,c] [af (.a v0 v1) v2,af v2 (.n 1000000),af (.a (.n 1000000) (.n 1)) (.a v0 v1)] rfl h1 (au h2) h
theorem Vg:a=1000000->a<=b->c+d<=1000000->c<=b:=λh1 h2 h3=>ao λh=>ah [a,b,c,d] [af (.n 1000000) v0,af v0 v1,af (.a v2 v3) (.n 1000000),am v1 v2] rfl (au h1.symm) h2 h3 h
theorem Vh:a=1000000->a<=b->c+d<=1000000->c+d<=b+1:=λh1 h2 h3=>ao λh=>ah [a,b,c,d] [af (.n 1000000) v0,af v0 v1,af (.a v2 v3) (.n 1000000),af (.a (aA v1) (.n 1)) (.a v2 v3)] rfl (au h1.symm) h2 h3 h
theorem Vi:a+b<=c->c<=d->f=a->g=b->¬f+g>d:=λh1 h2 h3 h4=>λh=>ah [a,b,c,d,f,g] [af (.a v0 v1) v2,af v2 v3,af v4 v0,af v5 v1,am v3 (.a v4 v5)] rfl h1 h2 (au h3) (au h4) h
theorem Io:a+b<=c->a+b<=c:=λh1=>ao λh=>ah [a,b,c] [af (.a v0 v1) v2,am v2 (.a v0 v1)] rfl h1 h
theorem Vj:a<=b->c+1<=a->c+1<=b:=λh1 h2=>ao λh=>ah [a,b,c] [af v0 v1,am v2 v0,am v1 (aA v2)] rfl h1 h2 h
theorem Vk:a=b+1->a<=b+1:=λh1=>ao λh=>ah [a,b] [af v0 (aA v1),af (.a (aA v1) (.n 1)) v0] rfl (au h1) h
theorem Vl:a<=b->c=a->b<=d->c<=d:=λh1 h2 h3=>ao λh=>ah [a,b,c,d] [af v0 v1,af v2 v0,af v1 v3,am v3 v2] rfl h1 (au h2) h3 h
theorem Vn:a<=b->c=a->c<=b:=λh1 h2=>ao λh=>ah [a,b,c] [af v0 v1,af v2 v0,am v1 v2] rfl h1 (au h2) h
theorem Ip:¬(↑a:Int)<0:=FJ.mpr (qx _)
theorem Vo:a<=b->min (↑b:Int) (↑a:Int)=min (↑a:Int) (↑a:Int):=λh=>(N1 (ue.mpr h)).trans (N1 (Int.le_refl _)).symm
theorem B3:a<=b->a<=b:=λh1=>ao λh=>ah [a,b] [af v0 v1,am v1 v0] rfl h1 h
theorem B4:a<=b->c<=a->c<=b:=λh1 h2=>ao λh=>ah [a,b,c] [af v0 v1,af v2 v0,am v1 v2] rfl h1 h2 h
theorem eE:a=b->c<a->c<b:=λh1 h2=>aO λh=>ah [a,b,c] [af v0 v1,am v2 v0,af v1 v2] rfl (au h1) h2 h
theorem P4:a<=60\/b<=60->min a b<=60:=λh1=>ao λh=>h1.elim (λk1=>ah [a,b,(min a b)] [af (.a (.n 60) (.n 1)) v2,af v0 (.n 60),af v2 v0] rfl h k1 (sv a b)) (λk1=>ah [a,b,(min a b)] [af (.a (.n 60) (.n 1)) v2,af v1 (.n 60),af v2 v1] rfl h k1 (sx a b))
theorem P5:a<=b->(↑b:Int) - (↑a:Int)=(↑(b - a):Int):=λh=>(Int.ofNat_sub h).symm
theorem P6:a<b->b<=c->c=1000000->0<=(↑a:Int)/\(↑a:Int)<2^60:=λh1 h2 h3=>⟨qx _,oP (lw.mpr (iP h1 (dC h2 (au h3)))) (by decide)⟩
theorem G3:a<=b->b=1000000->0<=(↑a:Int)/\(↑a:Int)<2^60:=λh k=>⟨qx _,wX (ue.mpr (dC h (au k))) (by decide)⟩
theorem P7:a<0->a<b->c=d:=λh1 h2=>cz (ao λh=>ah [a,b,c,d] [am v0 (.n 0)] rfl h1) (ao λh=>ah [a,b,c,d] [am v0 (.n 0)] rfl h1)
theorem P8:a<0->b=c:=λh1=>cz (ao λh=>ah [a,b,c] [am v0 (.n 0)] rfl h1) (ao λh=>ah [a,b,c] [am v0 (.n 0)] rfl h1)
theorem qU:a<b->c<=a->c<b:=λh1 h2=>aO λh=>ah [a,b,c] [am v0 v1,af v2 v0,af v1 v2] rfl h1 h2 h
theorem G4:a<b+1->¬c=a->c<=a->c<b:=λh1 h2 h3=>aO λh=>(gN h2).elim (λk1=>ah [a,b,c] [am v0 (aA v1),af v1 v2,am v2 v0] rfl h1 h k1) (λk1=>ah [a,b,c] [af v2 v0,am v0 v2] rfl h3 k1)
theorem P9:a≠b->a<=b->a<b:=λh1 h2=>aO λh=>(gN h1).elim (λk1=>ah [a,b] [af v1 v0,am v0 v1] rfl h k1) (λk1=>ah [a,b] [af v0 v1,am v1 v0] rfl h2 k1)
theorem uL:¬a=b->a<=b->a<b:=λh1 h2=>aO λh=>(gN h1).elim (λk1=>ah [a,b] [af v1 v0,am v0 v1] rfl h k1) (λk1=>ah [a,b] [af v0 v1,am v1 v0] rfl h2 k1)
theorem BA:a+(b+1)<=c->a<c:=λh1=>aO λh=>ah [a,b,c] [af (.a v0 (aA v1)) v2,af v2 v0] rfl h1 h
theorem xT:a+(b+1)<=c->a+1+b<=c:=λh1=>ao λh=>ah [a,b,c] [af (.a v0 (aA v1)) v2,am v2 (.a (aA v0) v1)] rfl h1 h
theorem Qa:a+(b+1)<=c->a+b<=c:=λh1=>ao λh=>ah [a,b,c] [af (.a v0 (aA v1)) v2,am v2 (.a v0 v1)] rfl h1 h
theorem BB:a<=100->b=1000000->a<b:=λh1 h2=>aO λh=>ah [a,b] [af v0 (.n 100),af (.n 1000000) v1,af v1 v0] rfl h1 (au h2.symm) h
theorem qV:a<=100->b=1000000->a<=b:=λh1 h2=>ao λh=>ah [a,b] [af v0 (.n 100),af (.n 1000000) v1,am v1 v0] rfl h1 (au h2.symm) h
theorem Qb:a<=100->b=1000000->1+a<=b:=λh1 h2=>ao λh=>ah [a,b] [af v0 (.n 100),af (.n 1000000) v1,am v1 (.a (.n 1) v0)] rfl h1 (au h2.symm) h
theorem xU:a<b->a<=b:=λh1=>ao λh=>ah [a,b] [am v0 v1,am v1 v0] rfl h1 h
theorem Qc:1<=a+(0+1):=ao λh=>ah [a] [af (.a (.a v0 (.a (.n 0) (.n 1))) (.n 1)) (.n 1)] rfl h
theorem Qd:a<b->a+(0+1)<=b:=λh1=>ao λh=>ah [a,b] [am v0 v1,am v1 (.a v0 (.a (.n 0) (.n 1)))] rfl h1 h
theorem Qe:a<=b->a=c\/a=d->a+(b+0)=c+(d+0)->a=min c d:=λh1 h2 h3=>cz (ao λh=>h2.elim (λk1=>(nO c d).elim (λk2=>ah [a,b,c,d,(min c d)] [am v4 v0,af v0 v2,af v2 v4] rfl h (au k1) (au (xf k2).symm)) (λk2=>ah [a,b,c,d,(min c d)] [af v0 v1,af (.a v0 (.a v1 (.n 0))) (.a v2 (.a v3 (.n 0))),am v4 v0,af v2 v0,af v3 v4] rfl h1 (au h3) h (au k1.symm) (au (xh k2).symm))) (λk1=>(nO c d).elim (λk2=>ah [a,b,c,d,(min c d)] [af v0 v1,af (.a v0 (.a v1 (.n 0))) (.a v2 (.a v3 (.n 0))),am v4 v0,af v3 v0,af v2 v4] rfl h1 (au h3) h (au k1.symm) (au (xf k2).symm)) (λk2=>ah [a,b,c,d,(min c d)] [am v4 v0,af v0 v3,af v3 v4] rfl h (au k1) (au (xh k2).symm)))) (ao λh=>h2.elim (λk1=>ah [a,b,c,d,(min c d)] [am v0 v4,af v2 v0,af v4 v2] rfl h (au k1.symm) (sv c d)) (λk1=>ah [a,b,c,d,(min c d)] [am v0 v4,af v3 v0,af v4 v3] rfl h (au k1.symm) (sx c d)))
theorem Qf:∀{x1 x2 x3 x4:Nat},x1+(x2+0)=x3+(x4+0)->x1=min x3 x4->x2=max x3 x4:=by
 intro x1 x2 x3 x4 h e;subst e;rcases nO x3 x4 with k|k
 ·rw[xf k]at h;rewrite[AR k];exact OE h
 ·rw[xh k,Nat.add_comm x3]at h;rewrite[AQ k];exact OE (show x4+x2=x4+x3 from h)
theorem uM:∀{x1:Nat},0<=(↑x1:Int):=by intros;omega
theorem Qg:¬a=b->¬min a b=max a b:=λh1=>λh=>(gN h1).elim (λk1=>ah [a,b,(min a b),(max a b)] [af v3 v2,am v0 v1,af v2 v0,af v1 v3] rfl (au h.symm) k1 (sv a b) (Nat.le_max_right a b)) (λk1=>ah [a,b,(min a b),(max a b)] [af v3 v2,am v1 v0,af v2 v1,af v0 v3] rfl (au h.symm) k1 (sx a b) (Nat.le_max_left a b))
theorem Qh:a<b->min c a<b:=λh1=>aO λh=>ah [a,b,c,(min c a)] [am v0 v1,af v1 v3,af v3 v0] rfl h1 h (sx c a)
theorem Qi:a<b->c<b->max a c<b:=λh1 h2=>aO λh=>(nO a c).elim (λk1=>ah [a,b,c,(max a c)] [am v2 v1,af v1 v3,af v3 v2] rfl h2 h (au (AR k1))) (λk1=>ah [a,b,c,(max a c)] [am v0 v1,af v1 v3,af v3 v0] rfl h1 h (au (AQ k1)))
theorem BD:a<=b->c<a->c<=b:=λh1 h2=>ao λh=>ah [a,b,c] [af v0 v1,am v2 v0,am v1 v2] rfl h1 h2 h
theorem Qj:a<b->c=b->a<=c:=λh1 h2=>ao λh=>ah [a,b,c] [am v0 v1,af v1 v2,am v2 v0] rfl h1 (au h2.symm) h
theorem Qk:a<b->a≠b:=λh1=>λh=>ah [a,b] [am v0 v1,af v1 v0] rfl h1 (au h.symm)
theorem qW:a<b->¬a=b:=λh1=>λh=>ah [a,b] [am v0 v1,af v1 v0] rfl h1 (au h.symm)
theorem G5:a<b+(0+1)->¬a<b->a=b:=λh1 h2=>cz (ao λh=>ah [a,b] [am v0 (.a v1 (.a (.n 0) (.n 1))),am v1 v0] rfl h1 h) (ao λh=>ah [a,b] [af v1 v0,am v0 v1] rfl (ao h2) h)
theorem nY:a<b->a<b+1:=λh1=>aO λh=>ah [a,b] [am v0 v1,am v1 v0] rfl h1 h
theorem G6:a+1+b=a+(b+1):=cz (ao λh=>ah [a,b] [af (.a (.a v0 (aA v1)) (.n 1)) (.a (aA v0) v1)] rfl h) (ao λh=>ah [a,b] [af (.a (.a (aA v0) v1) (.n 1)) (.a v0 (aA v1))] rfl h)
theorem Ql:a - b+(c+d)=a - b+c+d:=cz (ao λh=>ah [a,b,c,d,(a - b)] [af (.a (.a (.a v4 v2) v3) (.n 1)) (.a v4 (.a v2 v3))] rfl h) (ao λh=>ah [a,b,c,d,(a - b)] [af (.a (.a v4 (.a v2 v3)) (.n 1)) (.a (.a v4 v2) v3)] rfl h)
theorem Qm:a<b+0->c=b->b - a+d>=b - c+d+1:=λh1 h2=>ao λh=>ah [a,b,c,d,(b - a),(b - c)] [am v0 (.a v1 (.n 0)),af v1 v2,af (.a (.a v4 v3) (.n 1)) (.a (.a v5 v3) (.n 1)),af v1 (.a v4 v0),af (.a v5 v2) v1] rfl h1 (au h2.symm) h (s1 b a) (s3 (ao λhs=>ah [a,b,c,d,(b - a),(b - c)] [af v2 v1,am v1 v2] rfl (au h2) hs))
theorem G7:a+(b+1)=a+1+b:=cz (ao λh=>ah [a,b] [af (.a (.a (aA v0) v1) (.n 1)) (.a v0 (aA v1))] rfl h) (ao λh=>ah [a,b] [af (.a (.a v0 (aA v1)) (.n 1)) (.a (aA v0) v1)] rfl h)
theorem Qn:a<b+(c+1)->a<b+1+c:=λh1=>aO λh=>ah [a,b,c] [am v0 (.a v1 (aA v2)),af (.a (aA v1) v2) v0] rfl h1 h
theorem Qo:a>=b+1->c - d+a>=c - d+b+1:=λh1=>ao λh=>ah [a,b,c,d,(c - d)] [am v1 v0,af (.a (.a v4 v0) (.n 1)) (.a (.a v4 v1) (.n 1))] rfl h1 h
theorem Qq:a=0+a:=cz (ao λh=>ah [a] [af (.a (.a (.n 0) v0) (.n 1)) v0] rfl h) (ao λh=>ah [a] [am v0 (.a (.n 0) v0)] rfl h)
theorem Qr:a<b->a<0+b:=λh1=>aO λh=>ah [a,b] [am v0 v1,af (.a (.n 0) v1) v0] rfl h1 h
theorem Qs:a+(b+1)<=16->a+1+b<=16:=λh1=>ao λh=>ah [a,b] [af (.a v0 (aA v1)) (.n 16),af (.a (.n 16) (.n 1)) (.a (aA v0) v1)] rfl h1 h
theorem Qt:a+(b+1)<=16->c<=16*b->a - d+c<=16*(b+1):=λh1 h2=>ao λh=>ah [a,b,c,d,(a - d)] [af (.a v0 (aA v1)) (.n 16),af v2 (.m 16 v1),af (.a (.m 16 (aA v1)) (.n 1)) (.a v4 v2),af v4 v0] rfl h1 h2 h (Nat.sub_le a d)
theorem Qu:a<=16->0+a<=16:=λh1=>ao λh=>ah [a] [af v0 (.n 16),af (.a (.n 16) (.n 1)) (.a (.n 0) v0)] rfl h1 h
theorem Qw:a<=16->b<=16*a->b<=256:=λh1 h2=>ao λh=>ah [a,b] [(16,v0,(.n 16)),af v1 (.m 16 v0),af (.a (.n 256) (.n 1)) v1] rfl h1 h2 h
theorem Qx:a<=2*b->c<=2->c+a<=2*(b+1):=λh1 h2=>ao λh=>ah [a,b,c] [af v0 (.m 2 v1),af v2 (.n 2),af (.a (.m 2 (aA v1)) (.n 1)) (.a v2 v0)] rfl h1 h2 h
theorem Qy:a<=b->b<=c->c<=2*d->d<=16->a<=32:=λh1 h2 h3 h4=>ao λh=>ah [a,b,c,d] [af v0 v1,af v1 v2,af v2 (.m 2 v3),(2,v3,(.n 16)),af (.a (.n 32) (.n 1)) v0] rfl h1 h2 h3 h4 h
theorem QC:¬a<0:=λh=>ah [a] [am v0 (.n 0)] rfl h
theorem G8:a<b+1->a≠b->a<b:=λh1 h2=>aO λh=>(gN h2).elim (λk1=>ah [a,b] [af v1 v0,am v0 v1] rfl h k1) (λk1=>ah [a,b] [am v0 (aA v1),am v1 v0] rfl h1 k1)
theorem QE:a<=b->a=c - 1->c<=b+1:=λh1 h2=>ao λh=>ah [a,b,c,(c - 1)] [af v0 v1,af v3 v0,af (.a (aA v1) (.n 1)) v2,af v2 (aA v3)] rfl h1 (au h2.symm) h (s1 c 1)
theorem QF:a+b+1=a+(b+1):=cz (ao λh=>ah [a,b] [af (.a (.a v0 (aA v1)) (.n 1)) (.a (.a v0 v1) (.n 1))] rfl h) (ao λh=>ah [a,b] [af (.a (.a (.a v0 v1) (.n 1)) (.n 1)) (.a v0 (aA v1))] rfl h)
theorem QG:a+b+1=a+1+b:=cz (ao λh=>ah [a,b] [af (.a (.a (aA v0) v1) (.n 1)) (.a (.a v0 v1) (.n 1))] rfl h) (ao λh=>ah [a,b] [af (.a (.a (.a v0 v1) (.n 1)) (.n 1)) (.a (aA v0) v1)] rfl h)
theorem QH:a<b->c=b->a=c->c≠b/\d=c:=λh1 h2 h3=>⟨λh=>ah [a,b,c,d] [am v0 v1,af v1 v2,af v2 v0] rfl h1 (au h2.symm) (au h3.symm),cz (ao λh=>ah [a,b,c,d] [am v0 v1,af v1 v2,af v2 v0] rfl h1 (au h2.symm) (au h3.symm)) (ao λh=>ah [a,b,c,d] [am v0 v1,af v1 v2,af v2 v0] rfl h1 (au h2.symm) (au h3.symm))⟩
theorem BE:a<=16->b<a->b<16:=λh1 h2=>aO λh=>ah [a,b] [af v0 (.n 16),am v1 v0,af (.n 16) v1] rfl h1 h2 h
theorem xV:a<a+1:=aO λh=>ah [a] [am v0 v0] rfl h
theorem QI:a<a->b=c:=λh1=>cz (ao λh=>ah [a,b,c] [am v0 v0] rfl h1) (ao λh=>ah [a,b,c] [am v0 v0] rfl h1)
theorem xW:a=b->a<b->c=d:=λh1 h2=>cz (ao λh=>ah [a,b,c,d] [af v1 v0,am v0 v1] rfl (au h1.symm) h2) (ao λh=>ah [a,b,c,d] [af v1 v0,am v0 v1] rfl (au h1.symm) h2)
theorem QJ:a+1<=b->c<=d+1->d<=f+a->c<=f+b:=λh1 h2 h3=>ao λh=>ah [a,b,c,d,f] [am v0 v1,af v2 (aA v3),af v3 (.a v4 v0),af (.a (.a v4 v1) (.n 1)) v2] rfl h1 h2 h3 h
theorem G9:a<=b->c<=d->a+c<=b+d:=λh1 h2=>ao λh=>ah [a,b,c,d] [af v0 v1,af v2 v3,af (.a (.a v1 v3) (.n 1)) (.a v0 v2)] rfl h1 h2 h
theorem QK:a<=b->c+1<=d->f=g+1->g<=c+a->f<=d+b:=λh1 h2 h3 h4=>ao λh=>ah [a,b,c,d,f,g] [af v0 v1,am v2 v3,af v4 (aA v5),af v5 (.a v2 v0),af (.a (.a v3 v1) (.n 1)) v4] rfl h1 h2 (au h3) h4 h
theorem Ha:a+1<=b->c=d+1->d<=a->c<=b:=λh1 h2 h3=>ao λh=>ah [a,b,c,d] [am v0 v1,af v2 (aA v3),af v3 v0,am v1 v2] rfl h1 (au h2) h3 h
theorem QL:a+1<=b->c<=32->d+f<=g+32*a->d+(f+c)<=g+32*b:=λh1 h2 h3=>ao λh=>ah [a,b,c,d,f,g] [(32,(aA v0),v1),af v2 (.n 32),af (.a v3 v4) (.a v5 (.m 32 v0)),af (.a (.a v5 (.m 32 v1)) (.n 1)) (.a v3 (.a v4 v2))] rfl h1 h2 h3 h
theorem QM:a+(b+1)<=c+32*d->a+b<=c+32*d:=λh1=>ao λh=>ah [a,b,c,d] [af (.a v0 (aA v1)) (.a v2 (.m 32 v3)),af (.a (.a v2 (.m 32 v3)) (.n 1)) (.a v0 v1)] rfl h1 h
theorem QN:a+(b+1)<=c+32*d->f<=a+1->f+b<=c+32*d:=λh1 h2=>ao λh=>ah [a,b,c,d,f] [af (.a v0 (aA v1)) (.a v2 (.m 32 v3)),af v4 (aA v0),af (.a (.a v2 (.m 32 v3)) (.n 1)) (.a v4 v1)] rfl h1 h2 h
theorem gR:a=1000000->b<=16->b<=a:=λh1 h2=>ao λh=>ah [a,b] [af (.n 1000000) v0,af v1 (.n 16),am v0 v1] rfl (au h1.symm) h2 h
theorem QO:a=1000000->b<=16->c<=256->d+(f+1)<=b+32*c->d<a:=λh1 h2 h3 h4=>aO λh=>ah [a,b,c,d,f] [af (.n 1000000) v0,af v1 (.n 16),(32,v2,(.n 256)),af (.a v3 (aA v4)) (.a v1 (.m 32 v2)),af v0 v3] rfl (au h1.symm) h2 h3 h4 h
theorem xX:a=1000000->b<=256->c<=b->c<a:=λh1 h2 h3=>aO λh=>ah [a,b,c] [af (.n 1000000) v0,af v1 (.n 256),af v2 v1,af v0 v2] rfl (au h1.symm) h2 h3 h
theorem Hb:a=1000000->b<=16->c<=16->b+c<=a:=λh1 h2 h3=>ao λh=>ah [a,b,c] [af (.n 1000000) v0,af v1 (.n 16),af v2 (.n 16),am v0 (.a v1 v2)] rfl (au h1.symm) h2 h3 h
theorem Hc:a<=100->b=1000000->c<=256->d<=c+a->d<b:=λh1 h2 h3 h4=>aO λh=>ah [a,b,c,d] [af v0 (.n 100),af (.n 1000000) v1,af v2 (.n 256),af v3 (.a v2 v0),af v1 v3] rfl h1 (au h2.symm) h3 h4 h
theorem Hd:a=1000000->b<=16->c<=256->d<=b+c->d<a:=λh1 h2 h3 h4=>aO λh=>ah [a,b,c,d] [af (.n 1000000) v0,af v1 (.n 16),af v2 (.n 256),af v3 (.a v1 v2),af v0 v3] rfl (au h1.symm) h2 h3 h4 h
theorem He:a=1000000->b<=32->c<=32->b+c<=a:=λh1 h2 h3=>ao λh=>ah [a,b,c] [af (.n 1000000) v0,af v1 (.n 32),af v2 (.n 32),am v0 (.a v1 v2)] rfl (au h1.symm) h2 h3 h
theorem QQ:a=1000000->b<=16->c<=256->d+(f+1)<=b+32*c->g<=32->f+g<=a:=λh1 h2 h3 h4 h5=>ao λh=>ah [a,b,c,d,f,g] [af (.n 1000000) v0,af v1 (.n 16),(32,v2,(.n 256)),af (.a v3 (aA v4)) (.a v1 (.m 32 v2)),af v5 (.n 32),am v0 (.a v4 v5)] rfl (au h1.symm) h2 h3 h4 h5 h
theorem QR:a+1<=b->b<=256->c<=32->(256 - b)*33+(d+c)<=(256 - a)*33+d:=λh1 h2 h3=>ao λh=>ah [a,b,c,d,(256 - a),(256 - b)] [(33,(aA v0),v1),af v2 (.n 32),af (.a (.a (.mr v4 33) v3) (.n 1)) (.a (.mr v5 33) (.a v3 v2)),(33,(.n 256),(.a v4 v0)),(33,(.a v5 v1),(.n 256))] rfl h1 h3 h (s1 256 a) (s3 (ao λhs=>ah [a,b,c,d,(256 - a),(256 - b)] [af v1 (.n 256),af (.a (.n 256) (.n 1)) v1] rfl h2 hs))
theorem QS:a=1000000->b+c<=d+32*f->d<=16->f<=256->c<=a:=λh1 h2 h3 h4=>ao λh=>ah [a,b,c,d,f] [af (.n 1000000) v0,af (.a v1 v2) (.a v3 (.m 32 v4)),af v3 (.n 16),(32,v4,(.n 256)),am v0 v2] rfl (au h1.symm) h2 h3 h4 h
theorem QT:a+(b+1)<=c+32*d->a+(b+1)<=c+32*d:=λh1=>ao λh=>ah [a,b,c,d] [af (.a v0 (aA v1)) (.a v2 (.m 32 v3)),af (.a (.a v2 (.m 32 v3)) (.n 1)) (.a v0 (aA v1))] rfl h1 h
theorem QU:(256 - a)*33+b+1=(256 - a)*33+(b+1):=cz (ao λh=>ah [a,b,(256 - a)] [af (.a (.a (.mr v2 33) (aA v1)) (.n 1)) (.a (.a (.mr v2 33) v1) (.n 1))] rfl h) (ao λh=>ah [a,b,(256 - a)] [af (.a (.a (.a (.mr v2 33) v1) (.n 1)) (.n 1)) (.a (.mr v2 33) (aA v1))] rfl h)
theorem QV:a<=b->b+1=c->a<c:=λh1 h2=>aO λh=>ah [a,b,c] [af v0 v1,am v1 v2,af v2 v0] rfl h1 (au h2) h
theorem QX:a=1000000->b<=5->c=b->0+c<=a:=λh1 h2 h3=>ao λh=>ah [a,b,c] [af (.n 1000000) v0,af v1 (.n 5),af v2 v1,am v0 (.a (.n 0) v2)] rfl (au h1.symm) h2 (au h3) h
theorem BF:a<=b->b<=a->a=b:=λh1 h2=>cz (ao λh=>ah [a,b] [af v0 v1,am v1 v0] rfl h1 h) (ao λh=>ah [a,b] [af v1 v0,am v0 v1] rfl h2 h)
theorem QY:1<=a+1:=ao λh=>ah [a] [af (.a (aA v0) (.n 1)) (.n 1)] rfl h
theorem uN:a<=2->b=1000000->a<=b:=λh1 h2=>ao λh=>ah [a,b] [af v0 (.n 2),af (.n 1000000) v1,am v1 v0] rfl h1 (au h2.symm) h
theorem xY:a<=2->b=1000000->1+a<=b:=λh1 h2=>ao λh=>ah [a,b] [af v0 (.n 2),af (.n 1000000) v1,am v1 (.a (.n 1) v0)] rfl h1 (au h2.symm) h
theorem BG:a<=2->b=1000000->a<b:=λh1 h2=>aO λh=>ah [a,b] [af v0 (.n 2),af (.n 1000000) v1,af v1 v0] rfl h1 (au h2.symm) h
theorem Hf:a<=100->b=a->c=1000000->b<=c:=λh1 h2 h3=>ao λh=>ah [a,b,c] [af v0 (.n 100),af v1 v0,af (.n 1000000) v2,am v2 v1] rfl h1 (au h2) (au h3.symm) h
theorem Hg:a<=100->b=a->c=1000000->b<c:=λh1 h2 h3=>aO λh=>ah [a,b,c] [af v0 (.n 100),af v1 v0,af (.n 1000000) v2,af v2 v1] rfl h1 (au h2) (au h3.symm) h
theorem Hh:a<=2->b=1000000->a+1<=b:=λh1 h2=>ao λh=>ah [a,b] [af v0 (.n 2),af (.n 1000000) v1,am v1 (aA v0)] rfl h1 (au h2.symm) h
theorem QZ:a<=100->b=1000000->a+(0+1)<=b:=λh1 h2=>ao λh=>ah [a,b] [af v0 (.n 100),af (.n 1000000) v1,am v1 (.a v0 (.a (.n 0) (.n 1)))] rfl h1 (au h2.symm) h
theorem sR:a<b+1->¬a=b->a<b:=λh1 h2=>aO λh=>(gN h2).elim (λk1=>ah [a,b] [af v1 v0,am v0 v1] rfl h k1) (λk1=>ah [a,b] [am v0 (aA v1),am v1 v0] rfl h1 k1)
theorem Q1:a<16->a<=15:=λh1=>ao λh=>ah [a] [am v0 (.n 16),af (.a (.n 15) (.n 1)) v0] rfl h1 h
theorem BH:a=b->b<=a:=λh1=>ao λh=>ah [a,b] [af v1 v0,am v0 v1] rfl (au h1.symm) h
theorem uO:a<b+1->¬a<b->a=b:=λh1 h2=>cz (ao λh=>ah [a,b] [am v0 (aA v1),am v1 v0] rfl h1 h) (ao λh=>ah [a,b] [af v1 v0,am v0 v1] rfl (ao h2) h)
theorem Q5:a<b->b=a->b<b/\c=a:=λh1 h2=>⟨aO λh=>ah [a,b,c] [am v0 v1,af v1 v0] rfl h1 (au h2),cz (ao λh=>ah [a,b,c] [am v0 v1,af v1 v0] rfl h1 (au h2)) (ao λh=>ah [a,b,c] [am v0 v1,af v1 v0] rfl h1 (au h2))⟩
theorem Q6:¬a<b->¬a=b->b+1<=a:=λh1 h2=>ao λh=>(gN h2).elim (λk1=>ah [a,b] [af v1 v0,am v0 v1] rfl (ao h1) k1) (λk1=>ah [a,b] [am v0 (aA v1),am v1 v0] rfl h k1)
theorem Hi:a=b+1->b<a:=λh1=>aO λh=>ah [a,b] [am v1 v0,af v0 v1] rfl (au h1.symm) h
theorem pw:a=b+1->c<b->c<a:=λh1 h2=>aO λh=>ah [a,b,c] [am v1 v0,am v2 v1,af v0 v2] rfl (au h1.symm) h2 h
theorem Hj:a=b->c=b->a=c:=λh1 h2=>cz (ao λh=>ah [a,b,c] [af v0 v1,af v1 v2,am v2 v0] rfl (au h1) (au h2.symm) h) (ao λh=>ah [a,b,c] [af v1 v0,af v2 v1,am v0 v2] rfl (au h1.symm) (au h2) h)
theorem Q7:a<=b+1->b<=c+d->a<=c+1+d:=λh1 h2=>ao λh=>ah [a,b,c,d] [af v0 (aA v1),af v1 (.a v2 v3),af (.a (.a (aA v2) v3) (.n 1)) v0] rfl h1 h2 h
theorem Hk:a=b->a<b+1:=λh1=>aO λh=>ah [a,b] [af v0 v1,am v1 v0] rfl (au h1) h
theorem Q9:a<=b->0<c->a+1<=b+c:=λh1 h2=>ao λh=>ah [a,b,c] [af v0 v1,af (.a (.n 0) (.n 1)) v2,af (.a (.a v1 v2) (.n 1)) (aA v0)] rfl h1 h2 h
theorem Ra:a<=b->a<=b+c:=λh1=>ao λh=>ah [a,b,c] [af v0 v1,af (.a (.a v1 v2) (.n 1)) v0] rfl h1 h
theorem Rb:a+b<=c+32*d->a+(b+1)<=c+1+32*d:=λh1=>ao λh=>ah [a,b,c,d] [af (.a v0 v1) (.a v2 (.m 32 v3)),af (.a (.a (aA v2) (.m 32 v3)) (.n 1)) (.a v0 (aA v1))] rfl h1 h
theorem Rc:a=b+1->c<b/\d<b->c<a/\d<a:=λh1 h2=>⟨aO λh=>ah [a,b,c,d] [am v1 v0,am v2 v1,af v0 v2] rfl (au h1.symm) h2.1 h,aO λh=>ah [a,b,c,d] [am v1 v0,am v3 v1,af v0 v3] rfl (au h1.symm) h2.2 h⟩
theorem Rd:a<16->a<=100:=λh1=>ao λh=>ah [a] [am v0 (.n 16),af (.a (.n 100) (.n 1)) v0] rfl h1 h
theorem Hl:a=b->a<16->c=1000000->b<=c:=λh1 h2 h3=>ao λh=>ah [a,b,c] [af v1 v0,am v0 (.n 16),af (.n 1000000) v2,am v2 v1] rfl (au h1.symm) h2 (au h3.symm) h
theorem Re:a=b->¬a<b:=λh1=>λh=>ah [a,b] [af v1 v0,am v0 v1] rfl (au h1.symm) h
theorem Hm:a=b->a<16->c=1000000->b<c:=λh1 h2 h3=>aO λh=>ah [a,b,c] [af v1 v0,am v0 (.n 16),af (.n 1000000) v2,af v2 v1] rfl (au h1.symm) h2 (au h3.symm) h
theorem Rg:a=b->a<16->c=1000000->d<=256->f<=b+d->f<c:=λh1 h2 h3 h4 h5=>aO λh=>ah [a,b,c,d,f] [af v1 v0,am v0 (.n 16),af (.n 1000000) v2,af v3 (.n 256),af v4 (.a v1 v3),af v2 v4] rfl (au h1.symm) h2 (au h3.symm) h4 h5 h
theorem Rh:a=b->a<16->c=1000000->d=b+1->d<=c:=λh1 h2 h3 h4=>ao λh=>ah [a,b,c,d] [af v1 v0,am v0 (.n 16),af (.n 1000000) v2,af v3 (aA v1),am v2 v3] rfl (au h1.symm) h2 (au h3.symm) (au h4) h
theorem Ri:a<=2->a<=40:=λh1=>ao λh=>ah [a] [af v0 (.n 2),af (.a (.n 40) (.n 1)) v0] rfl h1 h
theorem Rj:a=b->a<16->c=b+1->d<c->d<16:=λh1 h2 h3 h4=>aO λh=>ah [a,b,c,d] [af v1 v0,am v0 (.n 16),af v2 (aA v1),am v3 v2,af (.n 16) v3] rfl (au h1.symm) h2 (au h3) h4 h
theorem Rk:a<=32->a<=32:=λh1=>ao λh=>ah [a] [af v0 (.n 32),af (.a (.n 32) (.n 1)) v0] rfl h1 h
theorem Rl:a<=32->a<=33:=λh1=>ao λh=>ah [a] [af v0 (.n 32),af (.a (.n 33) (.n 1)) v0] rfl h1 h
theorem Rm:a=1000000->b<=33->b<a:=λh1 h2=>aO λh=>ah [a,b] [af (.n 1000000) v0,af v1 (.n 33),af v0 v1] rfl (au h1.symm) h2 h
theorem Ro:a<b->b=a->False:=λh1 h2=>ah [a,b] [am v0 v1,af v1 v0] rfl h1 (au h2)
theorem Rp:a=b->a<b->False:=λh1 h2=>ah [a,b] [af v1 v0,am v0 v1] rfl (au h1.symm) h2
theorem Rq:a=b->c=b+1->d=a+1->d=c:=λh1 h2 h3=>cz (ao λh=>ah [a,b,c,d] [af v0 v1,am v1 v2,af v3 (aA v0),am v2 v3] rfl (au h1) (au h2.symm) (au h3) h) (ao λh=>ah [a,b,c,d] [af v1 v0,af v2 (aA v1),am v0 v3,am v3 v2] rfl (au h1.symm) (au h2) (au h3.symm) h)
theorem Ho:a=b->c=a+1->d=b+1->c=d:=λh1 h2 h3=>cz (ao λh=>ah [a,b,c,d] [af v0 v1,af v2 (aA v0),am v1 v3,am v3 v2] rfl (au h1) (au h2) (au h3.symm) h) (ao λh=>ah [a,b,c,d] [af v1 v0,am v0 v2,af v3 (aA v1),am v2 v3] rfl (au h1.symm) (au h2.symm) (au h3) h)
theorem Rr:a=1000000->b<=16->c<=256->d+f<=b+32*c->g<=32->f+g<=a:=λh1 h2 h3 h4 h5=>ao λh=>ah [a,b,c,d,f,g] [af (.n 1000000) v0,af v1 (.n 16),(32,v2,(.n 256)),af (.a v3 v4) (.a v1 (.m 32 v2)),af v5 (.n 32),am v0 (.a v4 v5)] rfl (au h1.symm) h2 h3 h4 h5 h
theorem Hp:a<=b+c->a+1<=b+(c+1):=λh1=>ao λh=>ah [a,b,c] [af v0 (.a v1 v2),af (.a (.a v1 (aA v2)) (.n 1)) (aA v0)] rfl h1 h
theorem Rs:a<1000000000->0<=(↑a:Int)/\(↑a:Int)<1000000000:=λh=>⟨qx _,lw.mpr h⟩
theorem Rt:a<=b->b=1000000->a<1000000000:=λh1 h2=>aO λh=>ah [a,b] [af v0 v1,af v1 (.n 1000000),af (.n 1000000000) v0] rfl h1 (au h2) h
theorem xZ:a=1000000->b<=16->c<b->c<=a:=λh1 h2 h3=>ao λh=>ah [a,b,c] [af (.n 1000000) v0,af v1 (.n 16),am v2 v1,am v0 v2] rfl (au h1.symm) h2 h3 h
theorem x5:a<=16->a<64:=λh1=>aO λh=>ah [a] [af v0 (.n 16),af (.n 64) v0] rfl h1 h
theorem Rv:a<=32->a<=40:=λh1=>ao λh=>ah [a] [af v0 (.n 32),af (.a (.n 40) (.n 1)) v0] rfl h1 h
theorem Hq:a<=2->a<=100:=λh1=>ao λh=>ah [a] [af v0 (.n 2),af (.a (.n 100) (.n 1)) v0] rfl h1 h
theorem Hr:a<=16->a<=16:=λh1=>ao λh=>ah [a] [af v0 (.n 16),af (.a (.n 16) (.n 1)) v0] rfl h1 h
theorem Rw:a<=16->b<a->b<1000:=λh1 h2=>aO λh=>ah [a,b] [af v0 (.n 16),am v1 v0,af (.n 1000) v1] rfl h1 h2 h
theorem Rx:a=1000000->12<=a:=λh1=>ao λh=>ah [a] [af (.n 1000000) v0,am v0 (.n 12)] rfl (au h1.symm) h
theorem qX:a=1000000->b<=12->b<=a:=λh1 h2=>ao λh=>ah [a,b] [af (.n 1000000) v0,af v1 (.n 12),am v0 v1] rfl (au h1.symm) h2 h
theorem BJ:0<=a:=ao λh=>ah [a] [am v0 (.n 0)] rfl h
theorem Ry:a<=2->(↑a:Int)<=1000:=λh=>wW (ue.mpr h) (by decide)
theorem Rz:a<=1000->b=1000000->a<=b:=λh1 h2=>ao λh=>ah [a,b] [af v0 (.n 1000),af (.n 1000000) v1,am v1 v0] rfl h1 (au h2.symm) h
theorem RA:a=0->¬0<a:=λh1=>λh=>ah [a] [af v0 (.n 0),af (.a (.n 0) (.n 1)) v0] rfl (au h1) h
theorem RB:a<=1000->b=1000000->c=a->0+c<=b:=λh1 h2 h3=>ao λh=>ah [a,b,c] [af v0 (.n 1000),af (.n 1000000) v1,af v2 v0,am v1 (.a (.n 0) v2)] rfl h1 (au h2.symm) (au h3) h
theorem RC:a=1000000->b<=1000->b<=a:=λh1 h2=>ao λh=>ah [a,b] [af (.n 1000000) v0,af v1 (.n 1000),am v0 v1] rfl (au h1.symm) h2 h
theorem RD:a<4096->a/2<2^11:=λh1=>aO λh=>ah [a,(a/2)] [am v0 (.n 4096),(2,(.n 2048),v1),af (.m 2 v1) v0] rfl h1 h (uo a 2)
theorem RE:a=1000000->b<=12->b<a:=λh1 h2=>aO λh=>ah [a,b] [af (.n 1000000) v0,af v1 (.n 12),af v0 v1] rfl (au h1.symm) h2 h
theorem RF:a<=12->a<64:=λh1=>aO λh=>ah [a] [af v0 (.n 12),af (.n 64) v0] rfl h1 h
theorem Ht:a<=3->b=1000000->a<=b:=λh1 h2=>ao λh=>ah [a,b] [af v0 (.n 3),af (.n 1000000) v1,am v1 v0] rfl h1 (au h2.symm) h
theorem Hu:a<1000000000->(↑a:Int).natAbs<2^60:=λh=>gO h (by decide)
theorem RH:∀{x1:Nat},0<x1->(↑x1:Int)≠0:=by intros;omega
theorem Hv:0<a->0<(↑a:Int):=λh=>lw.mpr h
theorem RI:∀{x1:Int} {x2:Nat},0<=x1->x1<(↑x2:Int)->x1.toNat<x2:=λ{x1 x2} h k=>(Int.toNat_lt h).mpr k
theorem RJ:a<=1000->0<=(↑a:Int)/\(↑a:Int)<2^60:=λh=>⟨qx _,wX (ue.mpr h) (by decide)⟩
theorem BK:a<=1000->a<1000000000:=λh1=>aO λh=>ah [a] [af v0 (.n 1000),af (.n 1000000000) v0] rfl h1 h
theorem RK:a<=1000->5*a<1000000000:=λh1=>aO λh=>ah [a] [(5,v0,(.n 1000)),af (.n 1000000000) (.m 5 v0)] rfl h1 h
theorem BL:a=1000000->b<=2->b<a:=λh1 h2=>aO λh=>ah [a,b] [af (.n 1000000) v0,af v1 (.n 2),af v0 v1] rfl (au h1.symm) h2 h
theorem BM:a=1000000->b<=2->b<=a:=λh1 h2=>ao λh=>ah [a,b] [af (.n 1000000) v0,af v1 (.n 2),am v0 v1] rfl (au h1.symm) h2 h
theorem Hw:a=1000000->b<=16->c<b->d<=c->d<a:=λh1 h2 h3 h4=>aO λh=>ah [a,b,c,d] [af (.n 1000000) v0,af v1 (.n 16),am v2 v1,af v3 v2,af v0 v3] rfl (au h1.symm) h2 h3 h4 h
theorem x6:a<16->b=1000000->a<=b:=λh1 h2=>ao λh=>ah [a,b] [am v0 (.n 16),af (.n 1000000) v1,am v1 v0] rfl h1 (au h2.symm) h
theorem RM:a<16->b=1000000->c<a->c<=b:=λh1 h2 h3=>ao λh=>ah [a,b,c] [am v0 (.n 16),af (.n 1000000) v1,am v2 v0,am v1 v2] rfl h1 (au h2.symm) h3 h
theorem RN:a<b->0<b:=λh1=>aO λh=>ah [a,b] [am v0 v1,af v1 (.n 0)] rfl h1 h
theorem RO:a<16->b=1000000->a<b:=λh1 h2=>aO λh=>ah [a,b] [am v0 (.n 16),af (.n 1000000) v1,af v1 v0] rfl h1 (au h2.symm) h
theorem sS:a<=a+b:=ao λh=>ah [a,b] [af (.a (.a v0 v1) (.n 1)) v0] rfl h
theorem RP:a<3->0<=(↑a:Int)/\(↑a:Int)<2^60:=λh=>⟨qx _,oP (lw.mpr h) (by decide)⟩
theorem RQ:a<3->a=0\/a=1\/a=2:=λh=>(OH (OG h)).elim (λh2=>(OH (OG h2)).elim (λh1=> .inl (Nat.lt_one_iff.mp h1)) (λe=> .inr (.inl e))) (λe=> .inr (.inr e))
theorem RR:a<120->(↑a:Int).natAbs<1000000000:=λh=>gO h (by decide)
theorem Hx:a<=90->a<=100:=λh1=>ao λh=>ah [a] [af v0 (.n 90),af (.a (.n 100) (.n 1)) v0] rfl h1 h
theorem Hy:a<=900->a<=1000:=λh1=>ao λh=>ah [a] [af v0 (.n 900),af (.a (.n 1000) (.n 1)) v0] rfl h1 h
theorem Hz:a<=900->a+1<=1000:=λh1=>ao λh=>ah [a] [af v0 (.n 900),af (.a (.n 1000) (.n 1)) (aA v0)] rfl h1 h
theorem RS:a<=900->a+1+1<=1000:=λh1=>ao λh=>ah [a] [af v0 (.n 900),af (.a (.n 1000) (.n 1)) (.a (aA v0) (.n 1))] rfl h1 h
theorem BN:a+1+1+1<=a+4:=ao λh=>ah [a] [af (.a (.a v0 (.n 4)) (.n 1)) (.a (.a (aA v0) (.n 1)) (.n 1))] rfl h
theorem RT:a<=900->a+1+1+1<=1000:=λh1=>ao λh=>ah [a] [af v0 (.n 900),af (.a (.n 1000) (.n 1)) (.a (.a (aA v0) (.n 1)) (.n 1))] rfl h1 h
theorem BO:a+1+1+1+1<=a+4:=ao λh=>ah [a] [af (.a (.a v0 (.n 4)) (.n 1)) (.a (.a (.a (aA v0) (.n 1)) (.n 1)) (.n 1))] rfl h
theorem RU:a<=90->b=1000000->a<b:=λh1 h2=>aO λh=>ah [a,b] [af v0 (.n 90),af (.n 1000000) v1,af v1 v0] rfl h1 (au h2.symm) h
theorem RW:a<=90->b=1000000->a+1<=b:=λh1 h2=>ao λh=>ah [a,b] [af v0 (.n 90),af (.n 1000000) v1,am v1 (aA v0)] rfl h1 (au h2.symm) h
theorem RX:a<=90->a+1<120:=λh1=>aO λh=>ah [a] [af v0 (.n 90),af (.n 120) (aA v0)] rfl h1 h
theorem HA:a<b->b<c->a<c:=λh1 h2=>aO λh=>ah [a,b,c] [am v0 v1,am v1 v2,af v2 v0] rfl h1 h2 h
theorem RY:a<=b->b - a<=0->a=b:=λh1 h2=>cz (ao λh=>ah [a,b,(b - a)] [af v0 v1,am v1 v0] rfl h1 h) (ao λh=>ah [a,b,(b - a)] [af v2 (.n 0),am v0 v1,af v1 (.a v2 v0)] rfl h2 h (s1 b a))
theorem HB:a<=b->c<a->(c+a)/2<b:=λh1 h2=>aO λh=>ah [a,b,c,((c+a)/2)] [(2,v0,v1),am v2 v0,(2,v1,v3),af (.m 2 v3) (.a v2 v0)] rfl h1 h2 h (uo (c+a) 2)
theorem RZ:a<b->(a+b)/2+1<=b:=λh1=>ao λh=>ah [a,b,((a+b)/2)] [am v0 v1,(2,(aA v1),(aA v2)),af (.m 2 v2) (.a v0 v1)] rfl h1 h (uo (a+b) 2)
theorem R0:a - b<=c+1->a - ((b+a)/2+1)<=c:=λh1=>ao λh=>(nO a b).elim (λk1=>ah [a,b,c,(a - b),((b+a)/2),(a - (((b+a)/2)+1))] [am v2 v5,af v5 (.n 0)] rfl h (s4 (ao λhs=>ah [a,b,c,(a - b),((b+a)/2),(a - (((b+a)/2)+1))] [af v0 v1,af (.a (.a v1 v0) (.n 1)) (.a (.m 2 v4) (.n 2)),(2,(.a (aA v4) (.n 1)),v0)] rfl k1 (d2 (b+a)) hs))) (λk1=>(nO a (((b+a)/2)+1)).elim (λk2=>ah [a,b,c,(a - b),((b+a)/2),(a - (((b+a)/2)+1))] [am v2 v5,af v5 (.n 0)] rfl h (s4 (ao λhs=>ah [a,b,c,(a - b),((b+a)/2),(a - (((b+a)/2)+1))] [af v0 (aA v4),af (.a (aA v4) (.n 1)) v0] rfl k2 hs))) (λk2=>ah [a,b,c,(a - b),((b+a)/2),(a - (((b+a)/2)+1))] [af v3 (aA v2),(2,(aA v2),v5),af v0 (.a v3 v1),af (.a (.a v1 v0) (.n 1)) (.a (.m 2 v4) (.n 2)),(2,(.a v5 (aA v4)),v0)] rfl h1 h (s1 a b) (d2 (b+a)) (s3 (ao λhs=>ah [a,b,c,(a - b),((b+a)/2),(a - (((b+a)/2)+1))] [am v4 v0,am v0 (aA v4)] rfl k2 hs))))
theorem R1:a<(b+c)/2+1->¬a=(b+c)/2->a<(b+c)/2:=λh1 h2=>aO λh=>(gN h2).elim (λk1=>ah [a,b,c,((b+c)/2)] [af v3 v0,am v0 v3] rfl h k1) (λk1=>ah [a,b,c,((b+c)/2)] [am v0 (aA v3),am v3 v0] rfl h1 k1)
theorem R2:a<b->a<=(a+b)/2:=λh1=>ao λh=>ah [a,b,((a+b)/2)] [am v0 v1,(2,(aA v2),v0),af (.a (.a v0 v1) (.n 1)) (.a (.m 2 v2) (.n 2))] rfl h1 h (d2 (a+b))
theorem R3:a<=b->c<a->(c+a)/2<=b:=λh1 h2=>ao λh=>ah [a,b,c,((c+a)/2)] [(2,v0,v1),am v2 v0,(2,(aA v1),v3),af (.m 2 v3) (.a v2 v0)] rfl h1 h2 h (uo (c+a) 2)
theorem R4:a - b<=c+1->(b+a)/2 - b<=c:=λh1=>ao λh=>(nO a b).elim (λk1=>ah [a,b,c,(a - b),((b+a)/2),(((b+a)/2) - b)] [am v2 v5,af v5 (.n 0)] rfl h (s4 (ao λhs=>ah [a,b,c,(a - b),((b+a)/2),(((b+a)/2) - b)] [af v0 v1,af (.m 2 v4) (.a v1 v0),(2,(aA v1),v4)] rfl k1 (uo (b+a) 2) hs))) (λk1=>ah [a,b,c,(a - b),((b+a)/2),(((b+a)/2) - b)] [af v3 (aA v2),(2,(aA v2),v5),af v0 (.a v3 v1),af (.m 2 v4) (.a v1 v0),(2,(.a v5 v1),v4)] rfl h1 h (s1 a b) (uo (b+a) 2) (s3 (ao λhs=>ah [a,b,c,(a - b),((b+a)/2),(((b+a)/2) - b)] [af v1 v0,af (.a (.a v1 v0) (.n 1)) (.a (.m 2 v4) (.n 2)),(2,(aA v4),v1)] rfl k1 (d2 (b+a)) hs)))
theorem qY:¬a<b->b<=a:=λh1=>ao λh=>ah [a,b] [af v1 v0,am v0 v1] rfl (ao h1) h
theorem R5:(a+b)/2<=c->¬c=(a+b)/2->(a+b)/2<c:=λh1 h2=>aO λh=>(gN h2).elim (λk1=>ah [a,b,c,((a+b)/2)] [af v3 v2,am v2 v3] rfl h1 k1) (λk1=>ah [a,b,c,((a+b)/2)] [af v2 v3,am v3 v2] rfl h k1)
theorem R6:¬a<b->a<c->b<=c:=λh1 h2=>ao λh=>ah [a,b,c] [af v1 v0,am v0 v2,am v2 v1] rfl (ao h1) h2 h
theorem R7:a<=b->¬a<b->a=b:=λh1 h2=>cz (ao λh=>ah [a,b] [af v0 v1,am v1 v0] rfl h1 h) (ao λh=>ah [a,b] [af v1 v0,am v0 v1] rfl (ao h2) h)
theorem R8:a<b->c<a->c<b:=λh1 h2=>aO λh=>ah [a,b,c] [am v0 v1,am v2 v0,af v1 v2] rfl h1 h2 h
theorem R9:a=b->b<=c->c<a->d=f:=λh1 h2 h3=>cz (ao λh=>ah [a,b,c,d,f] [af v0 v1,af v1 v2,am v2 v0] rfl (au h1) h2 h3) (ao λh=>ah [a,b,c,d,f] [af v0 v1,af v1 v2,am v2 v0] rfl (au h1) h2 h3)
theorem BP:a<b+1->a<=b:=λh1=>ao λh=>ah [a,b] [am v0 (aA v1),am v1 v0] rfl h1 h
theorem Sa:a=b->b+1<=a->c=d+1:=λh1 h2=>cz (ao λh=>ah [a,b,c,d] [af v0 v1,am v1 v0] rfl (au h1) h2) (ao λh=>ah [a,b,c,d] [af v0 v1,am v1 v0] rfl (au h1) h2)
theorem Sb:a<=b->c+1<a->c+1<b:=λh1 h2=>aO λh=>ah [a,b,c] [af v0 v1,af (.a (aA v2) (.n 1)) v0,af v1 (aA v2)] rfl h1 h2 h
theorem Sd:a=b->c<b+1->a<c->d=f+1:=λh1 h2 h3=>cz (ao λh=>ah [a,b,c,d,f] [af v1 v0,am v2 (aA v1),am v0 v2] rfl (au h1.symm) h2 h3) (ao λh=>ah [a,b,c,d,f] [af v1 v0,am v2 (aA v1),am v0 v2] rfl (au h1.symm) h2 h3)
theorem Se:a<=b->b≠a->a<b:=λh1 h2=>aO λh=>(gN h2).elim (λk1=>ah [a,b] [af v0 v1,am v1 v0] rfl h1 k1) (λk1=>ah [a,b] [af v1 v0,am v0 v1] rfl h k1)
theorem Sf:a<min b c->a<b:=λh1=>aO λh=>ah [a,b,c,(min b c)] [am v0 v3,af v1 v0,af v3 v1] rfl h1 h (sv b c)
theorem Sg:a<b->b<=c->a<c:=λh1 h2=>aO λh=>ah [a,b,c] [am v0 v1,af v1 v2,af v2 v0] rfl h1 h2 h
theorem BQ:a+1+b=a+b+1:=cz (ao λh=>ah [a,b] [af (.a (.a (.a v0 v1) (.n 1)) (.n 1)) (.a (aA v0) v1)] rfl h) (ao λh=>ah [a,b] [af (.a (.a (aA v0) v1) (.n 1)) (.a (.a v0 v1) (.n 1))] rfl h)
theorem Sh:a=0->¬a>0:=λh1=>λh=>ah [a] [af v0 (.n 0),af (.a (.n 0) (.n 1)) v0] rfl (au h1) h
theorem Si:a=b+1->a>0:=λh1=>aO λh=>ah [a,b] [am v1 v0,af v0 (.n 0)] rfl (au h1.symm) h
theorem Sj:a+1+1=a+1+1:=cz (ao λh=>ah [a] [af (.a (.a (aA v0) (.n 1)) (.n 1)) (.a (aA v0) (.n 1))] rfl h) (ao λh=>ah [a] [af (.a (.a (aA v0) (.n 1)) (.n 1)) (.a (aA v0) (.n 1))] rfl h)
theorem Sk:a=b+1->a - 1=b:=λh1=>cz (ao λh=>ah [a,b,(a - 1)] [af v0 (aA v1),am v1 v2,am v2 v0] rfl (au h1) h (s3 (ao λhs=>ah [a,b,(a - 1)] [am v1 v0,am v0 (.n 1)] rfl (au h1.symm) hs))) (ao λh=>ah [a,b,(a - 1)] [am v1 v0,am v2 v1,af v0 (aA v2)] rfl (au h1.symm) h (s1 a 1))
theorem Sl:a+9 - a<=9:=ao λh=>ah [a,((a+9) - a)] [af (.a (.n 9) (.n 1)) v1,af (.a v1 v0) (.a v0 (.n 9))] rfl h (s3 (ao λhs=>ah [a,((a+9) - a)] [af (.a (.a v0 (.n 9)) (.n 1)) v0] rfl hs))
theorem Sn:a - a<=9:=ao λh=>ah [a,(a - a)] [af (.a (.n 9) (.n 1)) v1,af (.a v1 v0) v0] rfl h (s3 (ao λhs=>ah [a,(a - a)] [am v0 v0] rfl hs))
theorem So:a<=10*b->c<=9->a+(c+1)<=10*(b+1):=λh1 h2=>ao λh=>ah [a,b,c] [af v0 (.m 10 v1),af v2 (.n 9),af (.a (.m 10 (aA v1)) (.n 1)) (.a v0 (aA v2))] rfl h1 h2 h
theorem Sp:∀{x1:Int},(x1 % 2^64).toNat<2^64:=λ{x1}=>(Int.toNat_lt (NZ _ (by decide))).mpr (NY _ (by decide))
theorem HC:a<=7->a<8:=λh1=>aO λh=>ah [a] [af v0 (.n 7),af (.n 8) v0] rfl h1 h
theorem HD:a<=31->a<32:=λh1=>aO λh=>ah [a] [af v0 (.n 31),af (.n 32) v0] rfl h1 h
theorem Sq:a<b+1->13+a<13+(b+1):=λh1=>aO λh=>ah [a,b] [am v0 (aA v1),af (.a (.n 13) (aA v1)) (.a (.n 13) v0)] rfl h1 h
theorem Sr:a<b->b<=a->False:=λh1 h2=>ah [a,b] [am v0 v1,af v1 v0] rfl h1 h2
theorem Ss:a=b->b<c->a=b/\a<=c:=λh1 h2=>⟨cz (ao λh=>ah [a,b,c] [af v0 v1,am v1 v0] rfl (au h1) h) (ao λh=>ah [a,b,c] [af v1 v0,am v0 v1] rfl (au h1.symm) h),ao λh=>ah [a,b,c] [af v0 v1,am v1 v2,am v2 v0] rfl (au h1) h2 h⟩
theorem Su:a<13+(b+1)->c<=10*a->c<10*(b+15):=λh1 h2=>aO λh=>ah [a,b,c] [(10,(aA v0),(.a (.n 13) (aA v1))),af v2 (.m 10 v0),af (.m 10 (.a v1 (.n 15))) v2] rfl h1 h2 h
theorem Sv:a<13+(b+1)->c<=10*a->b=7->c<1000:=λh1 h2 h3=>aO λh=>ah [a,b,c] [(10,(aA v0),(.a (.n 13) (aA v1))),af v2 (.m 10 v0),(10,v1,(.n 7)),af (.n 1000) v2] rfl h1 h2 (au h3) h
theorem Sx:a<13+(b+1)->c<=10*a->b=31->c<1000:=λh1 h2 h3=>aO λh=>ah [a,b,c] [(10,(aA v0),(.a (.n 13) (aA v1))),af v2 (.m 10 v0),(10,v1,(.n 31)),af (.n 1000) v2] rfl h1 h2 (au h3) h
theorem Sy:a+b=c->b≠0->a<c:=λh1 h2=>aO λh=>(gN h2).elim (λk1=>ah [a,b,c] [am v1 (.n 0)] rfl k1) (λk1=>ah [a,b,c] [af (.a v0 v1) v2,af v2 v0,af (.a (.n 0) (.n 1)) v1] rfl (au h1) h k1)
theorem Sz:a+b=c->b≠0->a+1+(b - 1)=c:=λh1 h2=>cz (ao λh=>(gN h2).elim (λk1=>ah [a,b,c,(b - 1)] [am v1 (.n 0)] rfl k1) (λk1=>ah [a,b,c,(b - 1)] [af (.a v0 v1) v2,am v2 (.a (aA v0) v3),am v3 v1] rfl (au h1) h (s3 (ao λhs=>ah [a,b,c,(b - 1)] [af (.a (.n 0) (.n 1)) v1,am v1 (.n 1)] rfl k1 hs)))) (ao λh=>ah [a,b,c,(b - 1)] [af v2 (.a v0 v1),af (.a (.a (aA v0) v3) (.n 1)) v2,af v1 (aA v3)] rfl (au h1.symm) h (s1 b 1))
theorem SA:a<b+1->a≠0->a - 1<b:=λh1 h2=>aO λh=>(gN h2).elim (λk1=>ah [a,b,(a - 1)] [am v0 (.n 0)] rfl k1) (λk1=>ah [a,b,(a - 1)] [am v0 (aA v1),af v1 v2,am v2 v0] rfl h1 h (s3 (ao λhs=>ah [a,b,(a - 1)] [af (.a (.n 0) (.n 1)) v0,am v0 (.n 1)] rfl k1 hs)))
theorem SB:a+9<=b->c<a+9+1 - a->a+c<=b:=λh1 h2=>ao λh=>ah [a,b,c,(((a+9)+1) - a)] [af (.a v0 (.n 9)) v1,am v2 v3,am v1 (.a v0 v2),af (.a v3 v0) (.a (.a v0 (.n 9)) (.n 1))] rfl h1 h2 h (s3 (ao λhs=>ah [a,b,c,(((a+9)+1) - a)] [af (.a (.a (.a v0 (.n 9)) (.n 1)) (.n 1)) v0] rfl hs))
theorem SD:a<=b->c<a+1 - a->a+c<=b:=λh1 h2=>ao λh=>ah [a,b,c,((a+1) - a)] [af v0 v1,am v2 v3,am v1 (.a v0 v2),af (.a v3 v0) (aA v0)] rfl h1 h2 h (s3 (ao λhs=>ah [a,b,c,((a+1) - a)] [af (.a (aA v0) (.n 1)) v0] rfl hs))
theorem SF:0<a+9+1 - a:=aO λh=>ah [a,(((a+9)+1) - a)] [af v1 (.n 0),af (.a (.a v0 (.n 9)) (.n 1)) (.a v1 v0)] rfl h (s1 ((a+9)+1) a)
theorem SG:0<a+1 - a:=aO λh=>ah [a,((a+1) - a)] [af v1 (.n 0),am v0 (.a v1 v0)] rfl h (s1 (a+1) a)
theorem SH:a+1<b+1->a<b:=λh1=>aO λh=>ah [a,b] [af (.a (aA v0) (.n 1)) (aA v1),af v1 v0] rfl h1 h
theorem SI:a+(b+1)<=c->a<c+1:=λh1=>aO λh=>ah [a,b,c] [af (.a v0 (aA v1)) v2,am v2 v0] rfl h1 h
theorem SK:a<13+(b+1)->a<b+15:=λh1=>aO λh=>ah [a,b] [am v0 (.a (.n 13) (aA v1)),af (.a v1 (.n 15)) v0] rfl h1 h
theorem HG:a=b+1->c<=b->c<a:=λh1 h2=>aO λh=>ah [a,b,c] [am v1 v0,af v2 v1,af v0 v2] rfl (au h1.symm) h2 h
theorem BR:a<=b->a<b+1:=λh1=>aO λh=>ah [a,b] [af v0 v1,am v1 v0] rfl h1 h
theorem SL:a<10*b->c+d=a->d<10*b:=λh1 h2=>aO λh=>ah [a,b,c,d] [am v0 (.m 10 v1),af (.a v2 v3) v0,af (.m 10 v1) v3] rfl h1 (au h2) h
theorem SM:a<b->a+1+(b - (a+1))=b:=λh1=>cz (ao λh=>ah [a,b,(b - (a+1))] [am v1 (.a (aA v0) v2),af (.a v2 (aA v0)) v1] rfl h (s3 (ao λhs=>ah [a,b,(b - (a+1))] [am v0 v1,am v1 (aA v0)] rfl h1 hs))) (ao λh=>ah [a,b,(b - (a+1))] [af (.a (.a (aA v0) v2) (.n 1)) v1,af v1 (.a v2 (aA v0))] rfl h (s1 b (a+1)))
theorem SN:a+b=c->b<d+1->a<=f->f<c->c - (f+1)<d:=λh1 h2 h3 h4=>aO λh=>ah [a,b,c,d,f,(c - (f+1))] [af v2 (.a v0 v1),am v1 (aA v3),af v0 v4,af v3 v5,af (.a v5 (aA v4)) v2] rfl (au h1.symm) h2 h3 h (s3 (ao λhs=>ah [a,b,c,d,f,(c - (f+1))] [am v4 v2,am v2 (aA v4)] rfl h4 hs))
theorem SO:a=7/\b<=5\/a=31/\b<=16->¬(b=5/\a=7)->a=7/\b<=4\/a=31/\b<=16:=λh1 h2=>h1.elim (λk0=> .inl (⟨cz (ao λey=>ah [a,b] [af v0 (.n 7),af (.a (.n 7) (.n 1)) v0] rfl (au k0.1) ey) (ao λey=>ah [a,b] [af (.n 7) v0,am v0 (.n 7)] rfl (au k0.1.symm) ey),ao λey=>(FH (b=5)).elim (λk2=>(gN (λz=>h2 ⟨k2,z⟩)).elim (λk3=>ah [a,b] [af (.n 7) v0,am v0 (.n 7)] rfl (au k0.1.symm) k3) (λk3=>ah [a,b] [af v0 (.n 7),af (.a (.n 7) (.n 1)) v0] rfl (au k0.1) k3)) (λk2=>(gN k2).elim (λk3=>ah [a,b] [af (.a (.n 4) (.n 1)) v1,am v1 (.n 5)] rfl ey k3) (λk3=>ah [a,b] [af v1 (.n 5),af (.a (.n 5) (.n 1)) v1] rfl k0.2 k3))⟩)) (λk0=> .inr (⟨cz (ao λey=>ah [a,b] [af v0 (.n 31),af (.a (.n 31) (.n 1)) v0] rfl (au k0.1) ey) (ao λey=>ah [a,b] [af (.n 31) v0,am v0 (.n 31)] rfl (au k0.1.symm) ey),ao λey=>ah [a,b] [af v1 (.n 16),af (.a (.n 16) (.n 1)) v1] rfl k0.2 ey⟩))
theorem SP:a=7/\b<=4\/a=31/\b<=16->¬a*3<=b*5:=λh1=>λh=>h1.elim (λk1=>ah [a,b] [af (.mr v0 3) (.mr v1 5),(3,(.n 7),v0),(5,v1,(.n 4))] rfl h (au k1.1.symm) k1.2) (λk1=>ah [a,b] [af (.mr v0 3) (.mr v1 5),(3,(.n 31),v0),(5,v1,(.n 16))] rfl h (au k1.1.symm) k1.2)
theorem SQ:a<1000->a<100000:=λh1=>aO λh=>ah [a] [am v0 (.n 1000),af (.n 100000) v0] rfl h1 h
theorem HH:a=7/\b<=4\/a=31/\b<=16->b+1<a:=λh1=>aO λh=>h1.elim (λk1=>ah [a,b] [af v0 (aA v1),af (.n 7) v0,af v1 (.n 4)] rfl h (au k1.1.symm) k1.2) (λk1=>ah [a,b] [af v0 (aA v1),af (.n 31) v0,af v1 (.n 16)] rfl h (au k1.1.symm) k1.2)
theorem HI:a<=15->a+1<=16777216:=λh1=>ao λh=>ah [a] [af v0 (.n 15),af (.a (.n 16777216) (.n 1)) (aA v0)] rfl h1 h
theorem SS:a<=15->b=7/\a<=4\/b=31/\a<=16->b=7/\a+1<=5\/b=31/\a+1<=16:=λh1 h2=>h2.elim (λk0=> .inl (⟨cz (ao λey=>ah [a,b] [af v1 (.n 7),af (.a (.n 7) (.n 1)) v1] rfl (au k0.1) ey) (ao λey=>ah [a,b] [af (.n 7) v1,am v1 (.n 7)] rfl (au k0.1.symm) ey),ao λey=>ah [a,b] [af v0 (.n 4),af (.a (.n 5) (.n 1)) (aA v0)] rfl k0.2 ey⟩)) (λk0=> .inr (⟨cz (ao λey=>ah [a,b] [af v1 (.n 31),af (.a (.n 31) (.n 1)) v1] rfl (au k0.1) ey) (ao λey=>ah [a,b] [af (.n 31) v1,am v1 (.n 31)] rfl (au k0.1.symm) ey),ao λey=>ah [a,b] [af v0 (.n 15),af (.a (.n 16) (.n 1)) (aA v0)] rfl h1 ey⟩))
theorem SU:a<10*b->a<10*b:=λh1=>aO λh=>ah [a,b] [am v0 (.m 10 v1),af (.m 10 v1) v0] rfl h1 h
theorem SV:a=7/\b<=4\/a=31/\b<=16->b<4096:=λh1=>aO λh=>h1.elim (λk1=>ah [a,b] [af (.n 4096) v1,af v1 (.n 4)] rfl h k1.2) (λk1=>ah [a,b] [af (.n 4096) v1,af v1 (.n 16)] rfl h k1.2)
theorem SX:a=b+1->c=d->¬(a=5/\c=7)->d=7/\b<=4\/d=31/\b<=16->¬c*3<=a*5:=λh1 h2 h3 h4=>λh=>(FH (a=5)).elim (λk1=>h4.elim (λk2=>(gN (λz=>h3 ⟨k1,z⟩)).elim (λk3=>ah [a,b,c,d] [af v3 v2,af (.n 7) v3,am v2 (.n 7)] rfl (au h2.symm) (au k2.1.symm) k3) (λk3=>ah [a,b,c,d] [af v2 v3,af v3 (.n 7),af (.a (.n 7) (.n 1)) v2] rfl (au h2) (au k2.1) k3)) (λk2=>ah [a,b,c,d] [(3,v3,v2),af (.mr v2 3) (.mr v0 5),(5,v0,(.n 5)),(3,(.n 31),v3)] rfl (au h2.symm) h (au k1) (au k2.1.symm))) (λk1=>h4.elim (λk2=>(gN k1).elim (λk3=>ah [a,b,c,d] [(3,v3,v2),af (.mr v2 3) (.mr v0 5),(3,(.n 7),v3),(5,(aA v0),(.n 5))] rfl (au h2.symm) h (au k2.1.symm) k3) (λk3=>ah [a,b,c,d] [af v0 (aA v1),af v1 (.n 4),af (.a (.n 5) (.n 1)) v0] rfl (au h1) k2.2 k3)) (λk2=>ah [a,b,c,d] [(5,v0,(aA v1)),(3,v3,v2),af (.mr v2 3) (.mr v0 5),(3,(.n 31),v3),(5,v1,(.n 16))] rfl (au h1) (au h2.symm) h (au k2.1.symm) k2.2))
theorem SY:a<=15->b=a+1->c=d->¬(b=5/\c=7)->d=7/\a<=4\/d=31/\a<=16->c=7/\b<=4\/c=31/\b<=16:=λh1 h2 h3 h4 h5=>(FH (b=5)).elim (λk0=> .inr (⟨cz (ao λey=>h5.elim (λk2=>ah [a,b,c,d] [af v2 v3,af (.a (.n 31) (.n 1)) v2,af v3 (.n 7)] rfl (au h3) ey (au k2.1)) (λk2=>ah [a,b,c,d] [af v2 v3,af (.a (.n 31) (.n 1)) v2,af v3 (.n 31)] rfl (au h3) ey (au k2.1))) (ao λey=>h5.elim (λk2=>(gN (λz=>h4 ⟨k0,z⟩)).elim (λk3=>ah [a,b,c,d] [af v3 v2,af (.n 7) v3,am v2 (.n 7)] rfl (au h3.symm) (au k2.1.symm) k3) (λk3=>ah [a,b,c,d] [af v2 v3,af v3 (.n 7),af (.a (.n 7) (.n 1)) v2] rfl (au h3) (au k2.1) k3)) (λk2=>ah [a,b,c,d] [af v3 v2,am v2 (.n 31),af (.n 31) v3] rfl (au h3.symm) ey (au k2.1.symm))),ao λey=>ah [a,b,c,d] [af v1 (.n 5),af (.a (.n 16) (.n 1)) v1] rfl (au k0) ey⟩)) (λk0=>h5.elim (λk1=> .inl (⟨cz (ao λmj=>ah [a,b,c,d] [af v2 v3,af v3 (.n 7),af (.a (.n 7) (.n 1)) v2] rfl (au h3) (au k1.1) mj) (ao λmj=>ah [a,b,c,d] [af v3 v2,af (.n 7) v3,am v2 (.n 7)] rfl (au h3.symm) (au k1.1.symm) mj),ao λmj=>(gN k0).elim (λk3=>ah [a,b,c,d] [af (.a (.n 4) (.n 1)) v1,am v1 (.n 5)] rfl mj k3) (λk3=>ah [a,b,c,d] [af v1 (aA v0),af v0 (.n 4),af (.a (.n 5) (.n 1)) v1] rfl (au h2) k1.2 k3)⟩)) (λk1=> .inr (⟨cz (ao λmj=>ah [a,b,c,d] [af v2 v3,af v3 (.n 31),af (.a (.n 31) (.n 1)) v2] rfl (au h3) (au k1.1) mj) (ao λmj=>ah [a,b,c,d] [af v3 v2,af (.n 31) v3,am v2 (.n 31)] rfl (au h3.symm) (au k1.1.symm) mj),ao λmj=>ah [a,b,c,d] [af v0 (.n 15),af v1 (aA v0),af (.a (.n 16) (.n 1)) v1] rfl h1 (au h2) mj⟩)))
theorem HJ:a - b=0->b<=a->b=a:=λh1 h2=>cz (ao λh=>ah [a,b,(a - b)] [af v1 v0,am v0 v1] rfl h2 h) (ao λh=>ah [a,b,(a - b)] [af v2 (.n 0),am v1 v0,af v0 (.a v2 v1)] rfl (au h1) h (s1 a b))
theorem HK:a - b=c+1->b<a:=λh1=>aO λh=>ah [a,b,c,(a - b)] [am v2 v3,af v3 (.n 0)] rfl (au h1.symm) (s4 (ao λhs=>ah [a,b,c,(a - b)] [af v0 v1,am v1 v0] rfl h hs))
theorem HL:a - b=c+1->a - (b+1)=c:=λh1=>cz (ao λh=>(nO a b).elim (λk1=>ah [a,b,c,(a - b),(a - (b+1))] [af v0 v1,af (.a v4 (aA v1)) v0] rfl k1 (s3 (ao λhs=>ah [a,b,c,(a - b),(a - (b+1))] [am v2 v3,af v3 (.n 0)] rfl (au h1.symm) (s4 (ao λhs=>ah [a,b,c,(a - b),(a - (b+1))] [af v0 v1,am v1 v0] rfl k1 hs))))) (λk1=>ah [a,b,c,(a - b),(a - (b+1))] [af v3 (aA v2),am v2 v4,af v0 (.a v3 v1),af (.a v4 (aA v1)) v0] rfl (au h1) h (s1 a b) (s3 (ao λhs=>ah [a,b,c,(a - b),(a - (b+1))] [am v2 v3,af (.a v3 v1) v0,am v0 (aA v1)] rfl (au h1.symm) (s3 (ao λhs=>ah [a,b,c,(a - b),(a - (b+1))] [af v1 v0,am v0 v1] rfl k1 hs)) hs)))) (ao λh=>(nO a b).elim (λk1=>ah [a,b,c,(a - b),(a - (b+1))] [af v0 v1,af (.a v4 (aA v1)) v0] rfl k1 (s3 (ao λhs=>ah [a,b,c,(a - b),(a - (b+1))] [am v2 v3,af v3 (.n 0)] rfl (au h1.symm) (s4 (ao λhs=>ah [a,b,c,(a - b),(a - (b+1))] [af v0 v1,am v1 v0] rfl k1 hs))))) (λk1=>ah [a,b,c,(a - b),(a - (b+1))] [am v2 v3,am v4 v2,af (.a v3 v1) v0,af v0 (.a v4 (aA v1))] rfl (au h1.symm) h (s3 (ao λhs=>ah [a,b,c,(a - b),(a - (b+1))] [af v1 v0,am v0 v1] rfl k1 hs)) (s1 a (b+1))))
theorem SZ:a+100<b->a+1+1+1<b:=λh1=>aO λh=>ah [a,b] [af (.a (.a v0 (.n 100)) (.n 1)) v1,af v1 (.a (.a (aA v0) (.n 1)) (.n 1))] rfl h1 h
theorem HM:a - 0=a - 0:=cz (ao λh=>ah [a,(a - 0)] [am v1 v1] rfl h) (ao λh=>ah [a,(a - 0)] [am v1 v1] rfl h)
theorem S1:a=b+1->b<=c->a<=c+1:=λh1 h2=>ao λh=>ah [a,b,c] [af v0 (aA v1),af v1 v2,af (.a (aA v2) (.n 1)) v0] rfl (au h1) h2 h
theorem S2:a<=16->b=a->c<b->d<=c->d<=15:=λh1 h2 h3 h4=>ao λh=>ah [a,b,c,d] [af v0 (.n 16),af v1 v0,am v2 v1,af v3 v2,af (.a (.n 15) (.n 1)) v3] rfl h1 (au h2) h3 h4 h
theorem S3:a=b->a+1<=16->b<=15:=λh1 h2=>ao λh=>ah [a,b] [af v1 v0,am v0 (.n 16),af (.a (.n 15) (.n 1)) v1] rfl (au h1.symm) h2 h
theorem S4:a+1=b->0<b:=λh1=>aO λh=>ah [a,b] [am v0 v1,af v1 (.n 0)] rfl (au h1) h
theorem HN:a+1=b->a=b - 1:=λh1=>cz (ao λh=>ah [a,b,(b - 1)] [am v0 v1,am v2 v0,af v1 (aA v2)] rfl (au h1) h (s1 b 1)) (ao λh=>ah [a,b,(b - 1)] [af v1 (aA v0),am v0 v2,am v2 v1] rfl (au h1.symm) h (s3 (ao λhs=>ah [a,b,(b - 1)] [am v0 v1,am v1 (.n 1)] rfl (au h1) hs)))
theorem qZ:a<b->c=b->a<c:=λh1 h2=>aO λh=>ah [a,b,c] [am v0 v1,af v1 v2,af v2 v0] rfl h1 (au h2.symm) h
theorem S5:a=b->c=7/\b<=4\/c=31/\b<=16->a<=16777216:=λh1 h2=>ao λh=>h2.elim (λk1=>ah [a,b,c] [af v0 v1,af (.a (.n 16777216) (.n 1)) v0,af v1 (.n 4)] rfl (au h1) h k1.2) (λk1=>ah [a,b,c] [af v0 v1,af (.a (.n 16777216) (.n 1)) v0,af v1 (.n 16)] rfl (au h1) h k1.2)
theorem S6:a<=a+1+1:=ao λh=>ah [a] [af (.a (.a (aA v0) (.n 1)) (.n 1)) v0] rfl h
theorem HO:¬a+1=0:=λh=>ah [a] [am v0 (.n 0)] rfl (au h)
theorem S8:a=b->a<=b:=λh1=>ao λh=>ah [a,b] [af v0 v1,am v1 v0] rfl (au h1) h
theorem S9:a=7/\b<=4\/a=31/\b<=16->b<=16777216:=λh1=>ao λh=>h1.elim (λk1=>ah [a,b] [af (.a (.n 16777216) (.n 1)) v1,af v1 (.n 4)] rfl h k1.2) (λk1=>ah [a,b] [af (.a (.n 16777216) (.n 1)) v1,af v1 (.n 16)] rfl h k1.2)
theorem Ta:a=b->¬c<d->d=b->a<=c:=λh1 h2 h3=>ao λh=>ah [a,b,c,d] [af v0 v1,af v3 v2,af v1 v3,am v2 v0] rfl (au h1) (ao h2) (au h3.symm) h
theorem BS:a=7/\b<=4\/a=31/\b<=16->b<=16:=λh1=>ao λh=>h1.elim (λk1=>ah [a,b] [af (.a (.n 16) (.n 1)) v1,af v1 (.n 4)] rfl h k1.2) (λk1=>ah [a,b] [af (.a (.n 16) (.n 1)) v1,af v1 (.n 16)] rfl h k1.2)
theorem Tc:a<=16->a<=16777216:=λh1=>ao λh=>ah [a] [af v0 (.n 16),af (.a (.n 16777216) (.n 1)) v0] rfl h1 h
theorem HQ:a+200+20*b<c->a+100<c:=λh1=>aO λh=>ah [a,b,c] [af (.a (.a (.a v0 (.n 200)) (.m 20 v1)) (.n 1)) v2,af v2 (.a v0 (.n 100))] rfl h1 h
theorem Td:a<=16->b=1000000->c=a->c<=b:=λh1 h2 h3=>ao λh=>ah [a,b,c] [af v0 (.n 16),af (.n 1000000) v1,af v2 v0,am v1 v2] rfl h1 (au h2.symm) (au h3) h
theorem HR:a<64->a<=16777216+1:=λh1=>ao λh=>ah [a] [am v0 (.n 64),af (.a (.a (.n 16777216) (.n 1)) (.n 1)) v0] rfl h1 h
theorem Te:¬a<2->b=a->0<b:=λh1 h2=>aO λh=>ah [a,b] [af (.n 2) v0,af v0 v1,af v1 (.n 0)] rfl (ao h1) (au h2.symm) h
theorem Tf:¬a<2->2<=a:=λh1=>ao λh=>ah [a] [af (.n 2) v0,am v0 (.n 2)] rfl (ao h1) h
theorem Th:¬a<2->0<a:=λh1=>aO λh=>ah [a] [af (.n 2) v0,af v0 (.n 0)] rfl (ao h1) h
theorem Ti:a<=16->b=1000000->c=d->c=a->d<=b:=λh1 h2 h3 h4=>ao λh=>ah [a,b,c,d] [af v0 (.n 16),af (.n 1000000) v1,af v3 v2,af v2 v0,am v1 v3] rfl h1 (au h2.symm) (au h3.symm) (au h4) h
theorem Tj:a<=b+1->a+c<=b+(c+1):=λh1=>ao λh=>ah [a,b,c] [af v0 (aA v1),af (.a (.a v1 (aA v2)) (.n 1)) (.a v0 v2)] rfl h1 h
theorem Tk:min a b<=b:=ao λh=>ah [a,b,(min a b)] [am v1 v2,af v2 v1] rfl h (sx a b)
theorem To:a<=100->b<=c->c<=a->b<=16777216:=λh1 h2 h3=>ao λh=>ah [a,b,c] [af v0 (.n 100),af v1 v2,af v2 v0,af (.a (.n 16777216) (.n 1)) v1] rfl h1 h2 h3 h
theorem Tp:a<=100->b=a->b<=100:=λh1 h2=>ao λh=>ah [a,b] [af v0 (.n 100),af v1 v0,af (.a (.n 100) (.n 1)) v1] rfl h1 (au h2) h
theorem Tq:a<=100->b=a->c=1000000->d<=b->f=d->f<=c:=λh1 h2 h3 h4 h5=>ao λh=>ah [a,b,c,d,f] [af v0 (.n 100),af v1 v0,af (.n 1000000) v2,af v3 v1,af v4 v3,am v2 v4] rfl h1 (au h2) (au h3.symm) h4 (au h5) h
theorem Tr:3<=a->b<=2->b<a:=λh1 h2=>aO λh=>ah [a,b] [af (.n 3) v0,af v1 (.n 2),af v0 v1] rfl h1 h2 h
theorem Ts:a=b->c<4096->a<=c->b<4096:=λh1 h2 h3=>aO λh=>ah [a,b,c] [af v1 v0,am v2 (.n 4096),af v0 v2,af (.n 4096) v1] rfl (au h1.symm) h2 h3 h
theorem Tt:a<=12->a<=13:=λh1=>ao λh=>ah [a] [af v0 (.n 12),af (.a (.n 13) (.n 1)) v0] rfl h1 h
theorem BU:a<b->a<b:=λh1=>aO λh=>ah [a,b] [am v0 v1,af v1 v0] rfl h1 h
theorem Tv:a<=12->a<13:=λh1=>aO λh=>ah [a] [af v0 (.n 12),af (.n 13) v0] rfl h1 h
theorem HS:¬a<12->12<=a:=λh1=>ao λh=>ah [a] [af (.n 12) v0,am v0 (.n 12)] rfl (ao h1) h
theorem Tw:a<=13*b->c<=13->c+a<=13*(b+1):=λh1 h2=>ao λh=>ah [a,b,c] [af v0 (.m 13 v1),af v2 (.n 13),af (.a (.m 13 (aA v1)) (.n 1)) (.a v2 v0)] rfl h1 h2 h
theorem Tx:a<=13*16->a<=208:=λh1=>ao λh=>ah [a] [af v0 (.m 13 (.n 16)),af (.a (.n 208) (.n 1)) v0] rfl h1 h
theorem Tz:a<b->c<=d->a+c<b+d:=λh1 h2=>aO λh=>ah [a,b,c,d] [am v0 v1,af v2 v3,af (.a v1 v3) (.a v0 v2)] rfl h1 h2 h
theorem TA:a<=b->c<d->a+c<b+d:=λh1 h2=>aO λh=>ah [a,b,c,d] [af v0 v1,am v2 v3,af (.a v1 v3) (.a v0 v2)] rfl h1 h2 h
theorem x8:a<=16->b<=a->b<=16:=λh1 h2=>ao λh=>ah [a,b] [af v0 (.n 16),af v1 v0,af (.a (.n 16) (.n 1)) v1] rfl h1 h2 h
theorem TB:a<b->17*c+(b - (a+1))<17*c+(b - a):=λh1=>aO λh=>ah [a,b,c,(b - a),(b - (a+1))] [af (.a (.m 17 v2) v3) (.a (.m 17 v2) v4),af v1 (.a v3 v0),af (.a v4 (aA v0)) v1] rfl h (s1 b a) (s3 (ao λhs=>ah [a,b,c,(b - a),(b - (a+1))] [am v0 v1,am v1 (aA v0)] rfl h1 hs))
theorem TC:a<b->b<=16->a<16:=λh1 h2=>aO λh=>ah [a,b] [am v0 v1,af v1 (.n 16),af (.n 16) v0] rfl h1 h2 h
theorem TE:a<b->a+1 - b=0:=λh1=>cz (ao λh=>ah [a,b,((a+1) - b)] [af (.a (.n 0) (.n 1)) v2,af v2 (.n 0)] rfl h (s4 (ao λhs=>ah [a,b,((a+1) - b)] [am v0 v1,am v1 (aA v0)] rfl h1 hs))) (ao λh=>ah [a,b,((a+1) - b)] [am v2 (.n 0)] rfl h)
theorem TF:a+b<=16->b<=16:=λh1=>ao λh=>ah [a,b] [af (.a v0 v1) (.n 16),af (.a (.n 16) (.n 1)) v1] rfl h1 h
theorem TG:a<b->a+1<=b+c:=λh1=>ao λh=>ah [a,b,c] [am v0 v1,af (.a (.a v1 v2) (.n 1)) (aA v0)] rfl h1 h
theorem TH:a<b->c<=16->d+16*b<=3400->d+c+16*a<=3400:=λh1 h2 h3=>ao λh=>ah [a,b,c,d] [(16,(aA v0),v1),af v2 (.n 16),af (.a v3 (.m 16 v1)) (.n 3400),af (.a (.n 3400) (.n 1)) (.a (.a v3 v2) (.m 16 v0))] rfl h1 h2 h3 h
theorem TI:a<b->c - (d+1)<=16->17*a+(c - (d+1))<17*b+(f - d):=λh1 h2=>aO λh=>ah [a,b,c,d,f,(c - (d+1)),(f - d)] [(17,(aA v0),v1),af v5 (.n 16),af (.a (.m 17 v1) v6) (.a (.m 17 v0) v5)] rfl h1 h2 h
theorem x9:a+1 - a=1:=cz (ao λh=>ah [a,((a+1) - a)] [af (.a (.n 1) (.n 1)) v1,af (.a v1 v0) (aA v0)] rfl h (s3 (ao λhs=>ah [a,((a+1) - a)] [af (.a (aA v0) (.n 1)) v0] rfl hs))) (ao λh=>ah [a,((a+1) - a)] [am v1 (.n 1),am v0 (.a v1 v0)] rfl h (s1 (a+1) a))
theorem HT:a=b->b<=16->a<=16:=λh1 h2=>ao λh=>ah [a,b] [af v0 v1,af v1 (.n 16),af (.a (.n 16) (.n 1)) v0] rfl (au h1) h2 h
theorem TJ:a<=16->b<=208->a+16*b<=3400:=λh1 h2=>ao λh=>ah [a,b] [af v0 (.n 16),(16,v1,(.n 208)),af (.a (.n 3400) (.n 1)) (.a v0 (.m 16 v1))] rfl h1 h2 h
theorem HU:a=1000000->b+16*c<=3400->b<=a:=λh1 h2=>ao λh=>ah [a,b,c] [af (.n 1000000) v0,af (.a v1 (.m 16 v2)) (.n 3400),am v0 v1] rfl (au h1.symm) h2 h
theorem TM:a=1000000->b<=16->b<a:=λh1 h2=>aO λh=>ah [a,b] [af (.n 1000000) v0,af v1 (.n 16),af v0 v1] rfl (au h1.symm) h2 h
theorem TN:a=1000000->b<=c->c<d->d<=16->f<=16->f+b<a:=λh1 h2 h3 h4 h5=>aO λh=>ah [a,b,c,d,f] [af (.n 1000000) v0,af v1 v2,am v2 v3,af v3 (.n 16),af v4 (.n 16),af v0 (.a v4 v1)] rfl (au h1.symm) h2 h3 h4 h5 h
theorem TO:a=1000000->b+16*c<=3400->d<=f->f<g->g<=16->b+d<a:=λh1 h2 h3 h4 h5=>aO λh=>ah [a,b,c,d,f,g] [af (.n 1000000) v0,af (.a v1 (.m 16 v2)) (.n 3400),af v3 v4,am v4 v5,af v5 (.n 16),af v0 (.a v1 v3)] rfl (au h1.symm) h2 h3 h4 h5 h
theorem ya:a=b->c<b/\d<b->c<a:=λh1 h2=>aO λh=>ah [a,b,c,d] [af v1 v0,am v2 v1,af v0 v2] rfl (au h1.symm) h2.1 h
theorem yb:a=b->c<b/\d<b->d<a:=λh1 h2=>aO λh=>ah [a,b,c,d] [af v1 v0,am v3 v1,af v0 v3] rfl (au h1.symm) h2.2 h
theorem BV:a=b->¬c<a->b<=c:=λh1 h2=>ao λh=>ah [a,b,c] [af v1 v0,af v0 v2,am v2 v1] rfl (au h1.symm) (ao h2) h
theorem yc:a<=16->a<1000000000:=λh1=>aO λh=>ah [a] [af v0 (.n 16),af (.n 1000000000) v0] rfl h1 h
theorem yd:a=1000000->b<=16->c=b->c<=a:=λh1 h2 h3=>ao λh=>ah [a,b,c] [af (.n 1000000) v0,af v1 (.n 16),af v2 v1,am v0 v2] rfl (au h1.symm) h2 (au h3) h
theorem TP:a=1000000->b<=2->1+b<=a:=λh1 h2=>ao λh=>ah [a,b] [af (.n 1000000) v0,af v1 (.n 2),am v0 (.a (.n 1) v1)] rfl (au h1.symm) h2 h
theorem HV:a<=100->b=1000000->c<=16->d<c->f<=a+d->f<b:=λh1 h2 h3 h4 h5=>aO λh=>ah [a,b,c,d,f] [af v0 (.n 100),af (.n 1000000) v1,af v2 (.n 16),am v3 v2,af v4 (.a v0 v3),af v1 v4] rfl h1 (au h2.symm) h3 h4 h5 h
theorem TQ:a<=b->a+1<=b+1:=λh1=>ao λh=>ah [a,b] [af v0 v1,af (.a (aA v1) (.n 1)) (aA v0)] rfl h1 h
theorem TR:a<=b->c<a->c<b:=λh1 h2=>aO λh=>ah [a,b,c] [af v0 v1,am v2 v0,af v1 v2] rfl h1 h2 h
theorem TS:a+b=a+c->c=b:=λh1=>cz (ao λh=>ah [a,b,c] [af (.a v0 v2) (.a v0 v1),am v1 v2] rfl (au h1.symm) h) (ao λh=>ah [a,b,c] [af (.a v0 v1) (.a v0 v2),am v2 v1] rfl (au h1) h)
theorem TT:¬a<b->a<b+1->a=b:=λh1 h2=>cz (ao λh=>ah [a,b] [am v0 (aA v1),am v1 v0] rfl h2 h) (ao λh=>ah [a,b] [af v1 v0,am v0 v1] rfl (ao h1) h)
theorem HW:a<b->a<b+c:=λh1=>aO λh=>ah [a,b,c] [am v0 v1,af (.a v1 v2) v0] rfl h1 h
theorem HX:a<=b*8->c<=8->c+a<=(b+1)*8:=λh1 h2=>ao λh=>ah [a,b,c] [af v0 (.mr v1 8),af v2 (.n 8),af (.a (.mr (aA v1) 8) (.n 1)) (.a v2 v0)] rfl h1 h2 h
theorem TU:a<=8->b<=8*c->a+b<=8*(c+1):=λh1 h2=>ao λh=>ah [a,b,c] [af v0 (.n 8),af v1 (.m 8 v2),af (.a (.m 8 (aA v2)) (.n 1)) (.a v0 v1)] rfl h1 h2 h
theorem TV:a<=16->b<=8*c->c=a->b<=128:=λh1 h2 h3=>ao λh=>ah [a,b,c] [(8,v0,(.n 16)),af v1 (.m 8 v2),(8,v2,v0),af (.a (.n 128) (.n 1)) v1] rfl h1 h2 (au h3) h
theorem TW:a=b+1->c+a=c+b+1:=λh1=>cz (ao λh=>ah [a,b,c] [af v0 (aA v1),af (.a (.a (.a v2 v1) (.n 1)) (.n 1)) (.a v2 v0)] rfl (au h1) h) (ao λh=>ah [a,b,c] [am v1 v0,af (.a (.a v2 v0) (.n 1)) (.a (.a v2 v1) (.n 1))] rfl (au h1.symm) h)
theorem TX:a+(b+c)<=d->a+b<=d:=λh1=>ao λh=>ah [a,b,c,d] [af (.a v0 (.a v1 v2)) v3,am v3 (.a v0 v1)] rfl h1 h
theorem TY:a+(b+c)<=d->a+b+c<=d:=λh1=>ao λh=>ah [a,b,c,d] [af (.a v0 (.a v1 v2)) v3,am v3 (.a (.a v0 v1) v2)] rfl h1 h
theorem BW:a+b - a=b:=cz (ao λh=>ah [a,b,((a+b) - a)] [am v1 v2,af (.a v2 v0) (.a v0 v1)] rfl h (s3 (ao λhs=>ah [a,b,((a+b) - a)] [af (.a (.a v0 v1) (.n 1)) v0] rfl hs))) (ao λh=>ah [a,b,((a+b) - a)] [am v2 v1,af (.a v0 v1) (.a v2 v0)] rfl h (s1 (a+b) a))
theorem TZ:a<=16->b=a->c=1000000->min d b<c:=λh1 h2 h3=>aO λh=>ah [a,b,c,d,(min d b)] [af v0 (.n 16),af v1 v0,af (.n 1000000) v2,af v2 v4,af v4 v1] rfl h1 (au h2) (au h3.symm) h (sx d b)
theorem T0:a<=16->b=a->b<=100:=λh1 h2=>ao λh=>ah [a,b] [af v0 (.n 16),af v1 v0,af (.a (.n 100) (.n 1)) v1] rfl h1 (au h2) h
theorem T3:a<=16->b=1000000->a<=b:=λh1 h2=>ao λh=>ah [a,b] [af v0 (.n 16),af (.n 1000000) v1,am v1 v0] rfl h1 (au h2.symm) h
theorem T4:a=1000000->0+1<=a:=λh1=>ao λh=>ah [a] [af (.n 1000000) v0,am v0 (.a (.n 0) (.n 1))] rfl (au h1.symm) h
theorem HY:a<=16->b=1000000->c<a->c<=b:=λh1 h2 h3=>ao λh=>ah [a,b,c] [af v0 (.n 16),af (.n 1000000) v1,am v2 v0,am v1 v2] rfl h1 (au h2.symm) h3 h
theorem T5:a<=2->b<a->min b a<=1:=λh1 h2=>ao λh=>ah [a,b,(min b a)] [af v0 (.n 2),am v1 v0,af (.a (.n 1) (.n 1)) v2,af v2 v1] rfl h1 h2 h (sv b a)
theorem T7:a<=b->b<=8^1->a<=8:=λh1 h2=>ao λh=>ah [a,b] [af v0 v1,af v1 (.n 8),af (.a (.n 8) (.n 1)) v0] rfl h1 h2 h
theorem BX:a<=16->b=a->c=1000000->b<=c:=λh1 h2 h3=>ao λh=>ah [a,b,c] [af v0 (.n 16),af v1 v0,af (.n 1000000) v2,am v2 v1] rfl h1 (au h2) (au h3.symm) h
theorem T8:a<=8->a<64:=λh1=>aO λh=>ah [a] [af v0 (.n 8),af (.n 64) v0] rfl h1 h
theorem T9:a=1000000->b<=8->b<=a:=λh1 h2=>ao λh=>ah [a,b] [af (.n 1000000) v0,af v1 (.n 8),am v0 v1] rfl (au h1.symm) h2 h
theorem Ua:a<=2->min b a<=2:=λh1=>ao λh=>ah [a,b,(min b a)] [af v0 (.n 2),af (.a (.n 2) (.n 1)) v2,af v2 v0] rfl h1 h (sx b a)
theorem Ub:a=1000000->b<=2->b+1<=a:=λh1 h2=>ao λh=>ah [a,b] [af (.n 1000000) v0,af v1 (.n 2),am v0 (aA v1)] rfl (au h1.symm) h2 h
theorem Uc:a=1000000->b<=8->c<=b*8->c<=a:=λh1 h2 h3=>ao λh=>ah [a,b,c] [af (.n 1000000) v0,(8,v1,(.n 8)),af v2 (.mr v1 8),am v0 v2] rfl (au h1.symm) h2 h3 h
theorem Ud:a=1000000->b<=8->b<a:=λh1 h2=>aO λh=>ah [a,b] [af (.n 1000000) v0,af v1 (.n 8),af v0 v1] rfl (au h1.symm) h2 h
theorem Ue:a<=128->b<a->200 - a<200 - b:=λh1 h2=>aO λh=>ah [a,b,(200 - b),(200 - a)] [am v1 v0,af v2 v3,af (.n 200) (.a v2 v1),af (.a v3 v0) (.n 200)] rfl h2 h (s1 200 b) (s3 (ao λhs=>ah [a,b,(200 - b),(200 - a)] [af v0 (.n 128),af (.a (.n 200) (.n 1)) v0] rfl h1 hs))
theorem Uf:a<6->(↑a:Int)<2^60:=λh=>oP (lw.mpr h) (by decide)
theorem Uh:a<=2->b<=990->c<a->b+c<=1000:=λh1 h2 h3=>ao λh=>ah [a,b,c] [af v0 (.n 2),af v1 (.n 990),am v2 v0,af (.a (.n 1000) (.n 1)) (.a v1 v2)] rfl h1 h2 h3 h
theorem Ui:a<=2->b=1000000->c<a->d=c->d<b:=λh1 h2 h3 h4=>aO λh=>ah [a,b,c,d] [af v0 (.n 2),af (.n 1000000) v1,am v2 v0,af v3 v2,af v1 v3] rfl h1 (au h2.symm) h3 (au h4) h
theorem Uj:a=b->a<16->b<4096:=λh1 h2=>aO λh=>ah [a,b] [af v1 v0,am v0 (.n 16),af (.n 4096) v1] rfl (au h1.symm) h2 h
theorem Uk:a<4096->a=b->b<4096:=λh1 h2=>aO λh=>ah [a,b] [am v0 (.n 4096),af v1 v0,af (.n 4096) v1] rfl h1 (au h2.symm) h
theorem Ul:a<3->a<1000000000:=λh1=>aO λh=>ah [a] [am v0 (.n 3),af (.n 1000000000) v0] rfl h1 h
theorem Um:a<3->a<=2:=λh1=>ao λh=>ah [a] [am v0 (.n 3),af (.a (.n 2) (.n 1)) v0] rfl h1 h
theorem Un:a<=900->a+1+1<=990:=λh1=>ao λh=>ah [a] [af v0 (.n 900),af (.a (.n 990) (.n 1)) (.a (aA v0) (.n 1))] rfl h1 h
theorem HZ:a<3->b=a->b<=2:=λh1 h2=>ao λh=>ah [a,b] [am v0 (.n 3),af v1 v0,af (.a (.n 2) (.n 1)) v1] rfl h1 (au h2) h
theorem Uo:a<3->b=a->b<=3:=λh1 h2=>ao λh=>ah [a,b] [am v0 (.n 3),af v1 v0,af (.a (.n 3) (.n 1)) v1] rfl h1 (au h2) h
theorem Up:a<3->b=a->b<=100:=λh1 h2=>ao λh=>ah [a,b] [am v0 (.n 3),af v1 v0,af (.a (.n 100) (.n 1)) v1] rfl h1 (au h2) h
theorem Ur:a<3->b+1+1+a=c->c<=b+4:=λh1 h2=>ao λh=>ah [a,b,c] [am v0 (.n 3),af v2 (.a (.a (aA v1) (.n 1)) v0),af (.a (.a v1 (.n 4)) (.n 1)) v2] rfl h1 (au h2.symm) h
theorem Us:a=1000000->b<=16->0+b<=a:=λh1 h2=>ao λh=>ah [a,b] [af (.n 1000000) v0,af v1 (.n 16),am v0 (.a (.n 0) v1)] rfl (au h1.symm) h2 h
theorem Ut:a<7->(↑a:Int)<2^60:=λh=>oP (lw.mpr h) (by decide)
theorem Uu:a<=63->b=1000000->a<=b:=λh1 h2=>ao λh=>ah [a,b] [af v0 (.n 63),af (.n 1000000) v1,am v1 v0] rfl h1 (au h2.symm) h
theorem Uv:min 48 a<=100:=ao λh=>ah [a,(min 48 a)] [af (.a (.n 100) (.n 1)) v1,af v1 (.n 48)] rfl h (sv 48 a)
theorem H7:a=1000000->min 48 b<=a:=λh1=>ao λh=>ah [a,b,(min 48 b)] [af (.n 1000000) v0,am v0 v2,af v2 (.n 48)] rfl (au h1.symm) h (sv 48 b)
theorem Ux:a<3->a<7:=λh1=>aO λh=>ah [a] [am v0 (.n 3),af (.n 7) v0] rfl h1 h
theorem Uy:a<4->3+a<7:=λh1=>aO λh=>ah [a] [am v0 (.n 4),af (.n 7) (.a (.n 3) v0)] rfl h1 h
theorem Uz:a<=b->b<0+1+1+1+1->a<16:=λh1 h2=>aO λh=>ah [a,b] [af v0 v1,am v1 (.a (.a (.a (.a (.n 0) (.n 1)) (.n 1)) (.n 1)) (.n 1)),af (.n 16) v0] rfl h1 h2 h
theorem UA:a<=b->c<=a+1->c<=b+1:=λh1 h2=>ao λh=>ah [a,b,c] [af v0 v1,af v2 (aA v0),af (.a (aA v1) (.n 1)) v2] rfl h1 h2 h
theorem UB:a<2->2+a<1000000000:=λh1=>aO λh=>ah [a] [am v0 (.n 2),af (.n 1000000000) (.a (.n 2) v0)] rfl h1 h
theorem UC:a<=0+1+1+1+1->a<=4+4*0:=λh1=>ao λh=>ah [a] [af v0 (.a (.a (.a (.a (.n 0) (.n 1)) (.n 1)) (.n 1)) (.n 1)),af (.a (.a (.n 4) (.m 4 (.n 0))) (.n 1)) v0] rfl h1 h
theorem UD:a<2->b<=4+25*c->c<2+a->b<=1000:=λh1 h2 h3=>ao λh=>ah [a,b,c] [(25,(aA v0),(.n 2)),af v1 (.a (.n 4) (.m 25 v2)),(25,(aA v2),(.a (.n 2) v0)),af (.a (.n 1000) (.n 1)) v1] rfl h1 h2 h3 h
theorem UE:a<3->2+a<1000000000:=λh1=>aO λh=>ah [a] [am v0 (.n 3),af (.n 1000000000) (.a (.n 2) v0)] rfl h1 h
theorem UF:a<2->b<=4*c->c<2+a->d<3->f<=b+g->g<2+d->f<=90:=λh1 h2 h3 h4 h5 h6=>ao λh=>ah [a,b,c,d,f,g] [(4,(aA v0),(.n 2)),af v1 (.m 4 v2),(4,(aA v2),(.a (.n 2) v0)),am v3 (.n 3),af v4 (.a v1 v5),am v5 (.a (.n 2) v3),af (.a (.n 90) (.n 1)) v4] rfl h1 h2 h3 h4 h5 h6 h
theorem UG:a<2->b<=4+4*c->c<2+a->d<3->f<=b+g->g<2+d->f<16:=λh1 h2 h3 h4 h5 h6=>aO λh=>ah [a,b,c,d,f,g] [(4,(aA v0),(.n 2)),af v1 (.a (.n 4) (.m 4 v2)),(4,(aA v2),(.a (.n 2) v0)),am v3 (.n 3),af v4 (.a v1 v5),am v5 (.a (.n 2) v3),af (.n 16) v4] rfl h1 h2 h3 h4 h5 h6 h
theorem UH:a<2->b<=4+25*c->c<2+a->d<3->f<=b+1+4*g->g<2+d->f<=900:=λh1 h2 h3 h4 h5 h6=>ao λh=>ah [a,b,c,d,f,g] [(25,(aA v0),(.n 2)),af v1 (.a (.n 4) (.m 25 v2)),(25,(aA v2),(.a (.n 2) v0)),(4,(aA v3),(.n 3)),af v4 (.a (aA v1) (.m 4 v5)),(4,(aA v5),(.a (.n 2) v3)),af (.a (.n 900) (.n 1)) v4] rfl h1 h2 h3 h4 h5 h6 h
theorem UI:0<a->a<=b->0<b:=λh1 h2=>aO λh=>ah [a,b] [af (.a (.n 0) (.n 1)) v0,af v0 v1,af v1 (.n 0)] rfl h1 h2 h
theorem H8:a<=b+c->d<=a+1->d<=b+(c+1):=λh1 h2=>ao λh=>ah [a,b,c,d] [af v0 (.a v1 v2),af v3 (aA v0),af (.a (.a v1 (aA v2)) (.n 1)) v3] rfl h1 h2 h
theorem UJ:a<=b+1+4*c->d<=a+4->d<=b+1+4*(c+1):=λh1 h2=>ao λh=>ah [a,b,c,d] [af v0 (.a (aA v1) (.m 4 v2)),af v3 (.a v0 (.n 4)),af (.a (.a (aA v1) (.m 4 (aA v2))) (.n 1)) v3] rfl h1 h2 h
theorem H9:a<2->b<=4*c->c<2+a->d<3->f<=b+(2+d)->f<=100:=λh1 h2 h3 h4 h5=>ao λh=>ah [a,b,c,d,f] [(4,(aA v0),(.n 2)),af v1 (.m 4 v2),(4,(aA v2),(.a (.n 2) v0)),am v3 (.n 3),af v4 (.a v1 (.a (.n 2) v3)),af (.a (.n 100) (.n 1)) v4] rfl h1 h2 h3 h4 h5 h
theorem UK:a<2->b<=4+25*c->c<2+a->d<3->f<=b+1+4*(2+d)->f<=900:=λh1 h2 h3 h4 h5=>ao λh=>ah [a,b,c,d,f] [(25,(aA v0),(.n 2)),af v1 (.a (.n 4) (.m 25 v2)),(25,(aA v2),(.a (.n 2) v0)),(4,(aA v3),(.n 3)),af v4 (.a (aA v1) (.m 4 (.a (.n 2) v3))),af (.a (.n 900) (.n 1)) v4] rfl h1 h2 h3 h4 h5 h
theorem UL:a<=4+4*b->c<3->d<=a+(2+c)->d<=4+4*(b+1):=λh1 h2 h3=>ao λh=>ah [a,b,c,d] [af v0 (.a (.n 4) (.m 4 v1)),am v2 (.n 3),af v3 (.a v0 (.a (.n 2) v2)),af (.a (.a (.n 4) (.m 4 (aA v1))) (.n 1)) v3] rfl h1 h2 h3 h
theorem UM:a<=4*b->c<3->d<=a+(2+c)->d<=4*(b+1):=λh1 h2 h3=>ao λh=>ah [a,b,c,d] [af v0 (.m 4 v1),am v2 (.n 3),af v3 (.a v0 (.a (.n 2) v2)),af (.a (.m 4 (aA v1)) (.n 1)) v3] rfl h1 h2 h3 h
theorem UN:a<=4+25*b->c<3->d<=a+1+4*(2+c)->f<=d+4->f<=4+25*(b+1):=λh1 h2 h3 h4=>ao λh=>ah [a,b,c,d,f] [af v0 (.a (.n 4) (.m 25 v1)),(4,(aA v2),(.n 3)),af v3 (.a (aA v0) (.m 4 (.a (.n 2) v2))),af v4 (.a v3 (.n 4)),af (.a (.a (.n 4) (.m 25 (aA v1))) (.n 1)) v4] rfl h1 h2 h3 h4 h
theorem UO:0<2+a:=aO λh=>ah [a] [af (.a (.n 2) v0) (.n 0)] rfl h
theorem UP:a=1000000->b<2->c<=4+4*(2+b)->c<=a:=λh1 h2 h3=>ao λh=>ah [a,b,c] [af (.n 1000000) v0,(4,(aA v1),(.n 2)),af v2 (.a (.n 4) (.m 4 (.a (.n 2) v1))),am v0 v2] rfl (au h1.symm) h2 h3 h
theorem UQ:a<2->b<=4+4*(2+a)->b<1000000000:=λh1 h2=>aO λh=>ah [a,b] [(4,(aA v0),(.n 2)),af v1 (.a (.n 4) (.m 4 (.a (.n 2) v0))),af (.n 1000000000) v1] rfl h1 h2 h
theorem UR:a=1000000->b<2->c<=4+4*(2+b)->0+c<=a:=λh1 h2 h3=>ao λh=>ah [a,b,c] [af (.n 1000000) v0,(4,(aA v1),(.n 2)),af v2 (.a (.n 4) (.m 4 (.a (.n 2) v1))),am v0 (.a (.n 0) v2)] rfl (au h1.symm) h2 h3 h
end
section
set_option genSizeOf false
set_option genSizeOfSpec false
set_option genCtorIdx false in
set_option genInjectivity false in
inductive cr where
 |s (i:Nat)|l (i:Nat)|a (i:Nat)|v (i:Nat)|t (i:Nat)|c (i:Nat)
noncomputable def cr.ctorIdx(a:cr):Nat:= @cr.casesOn (λU=>Nat) a (λU=>0) (λU=>1) (λU=>2) (λU=>3) (λU=>4) (λU=>5)
noncomputable def cr.code:cr->Nat×Nat
 |.s i=>(0,i)
 |.l i=>(1,i)
 |.a i=>(2,i)
 |.v i=>(3,i)
 |.t i=>(4,i)
 |.c i=>(5,i)
noncomputable def cr.u6(p:Nat×Nat):cr:=match p.1 with
 |0=> .s p.2
 |1=> .l p.2
 |2=> .a p.2
 |3=> .v p.2
 |4=> .t p.2
 |_=> .c p.2
theorem cr.u7(a:cr):cr.u6 a.code=a:=by cases a<;>rfl
noncomputable instance:DecidableEq cr:=λa b=>decidable_of_decidable_of_iff (p:=a.code=b.code) ⟨λh=>(a.u7.symm.trans (congrArg cr.u6 h)).trans b.u7,congrArg cr.code⟩
noncomputable def cr.cS:cr->Bool
 |.c _=>aq
 |_=>ag
set_option genCtorIdx false in
inductive Atom where
 |i (n:Int)|x (s:Str)
noncomputable def Atom.ctorIdx(a:Atom):Nat:= @Atom.casesOn (λU=>Nat) a (λU=>0) (λU=>1)
noncomputable def Atom.code:Atom->Int⊕Str
 |.i n=> .inl n
 |.x s=> .inr s
noncomputable def Atom.u6:Int⊕Str->Atom
 |.inl n=> .i n
 |.inr s=> .x s
theorem Atom.u7(a:Atom):Atom.u6 a.code=a:=by cases a<;>rfl
noncomputable instance:DecidableEq Atom:=λa b=>decidable_of_decidable_of_iff (p:=a.code=b.code) ⟨λh=>(a.u7.symm.trans (congrArg Atom.u6 h)).trans b.u7,congrArg Atom.code⟩
set_option genCtorIdx false in
inductive PV where
 |none|bool (b:Bool)|int (i:Int)|str (s:Str)
 |tup (xs:List PV)|lst (xs:List PV)|eh (n:Nat)|ak (l:cr)
noncomputable def PV.ctorIdx(a:PV):Nat:= @PV.casesOn (λU=>Nat) a 0 (λU=>1) (λU=>2) (λU=>3) (λU=>4) (λU=>5) (λU=>6) (λU=>7)
set_option genInjectivity false
set_option genCtorIdx false
mutual
inductive At where
 |heap|iB|values|kA|nodes|jQ|lX|nb|above|bx|merged
 |gC|gu|dc|dO|known|waiting
inductive Cl where
 |fG|Keeper|jD|j8|Heap
inductive dn where|s|l|a|v|t
end
set_option genCtorIdx true
set_option genInjectivity true
noncomputable def At.ix(a:At):Nat:= @At.casesOn (λU=>Nat) a 0 1 2 3 4 5 6 7 8 9 10 11 12 13 14 15 16
noncomputable def At.gF:List At:=[.heap,.iB,.values,.kA,.nodes,.jQ,.lX,.nb,.above,.bx,.merged,.gC,.gu,.dc,.dO,.known,.waiting]
theorem At.kg(a:At):At.gF[a.ix]? =ae a:=by cases a<;>rfl
noncomputable instance:DecidableEq At:=λa b=>decidable_of_decidable_of_iff (p:=a.ix=b.ix) ⟨λh=>mQ ((a.kg.symm.trans (congrArg (λi=>At.gF[i]?) h)).trans b.kg),congrArg At.ix⟩
noncomputable def Cl.ix(a:Cl):Nat:= @Cl.casesOn (λU=>Nat) a 0 1 2 3 4
noncomputable def Cl.gF:List Cl:=[.fG,.Keeper,.jD,.j8,.Heap]
theorem Cl.kg(a:Cl):Cl.gF[a.ix]? =ae a:=by cases a<;>rfl
noncomputable instance:DecidableEq Cl:=λa b=>decidable_of_decidable_of_iff (p:=a.ix=b.ix) ⟨λh=>mQ ((a.kg.symm.trans (congrArg (λi=>Cl.gF[i]?) h)).trans b.kg),congrArg Cl.ix⟩
noncomputable def At.str:At->Str
 |.heap=>"heap"|.iB=>"analysis"|.values=>"values"|.kA=>"told"|.nodes=>"nodes"|.jQ=>"numbers"
 |.lX=>"weights"|.nb=>"depths"|.above=>"above"|.bx=>"lots"|.merged=>"merged"|.gC=>"bank"
 |.gu=>"unions"|.dc=>"edges"|.dO=>"forest"|.known=>"known"|.waiting=>"waiting"
noncomputable def Cl.addr:Cl->aL
 |.fG=>46|.Keeper=>105|.jD=>259|.j8=>341|.Heap=>473
set_option genCtorIdx false in
set_option genInjectivity false in
inductive aF where
 |list (xs:List PV)
 |aH (xs:List (Atom×PV))
 |bL (xs:List (List Atom×PV))
 |fB (o:Obj) (xs:List (Atom×PV))
 |inst (C:Cl) (d:cr)
 |attrs (xs:List (At×PV))
noncomputable def aF.ctorIdx(a:aF):Nat:= @aF.casesOn (λU=>Nat) a (λU=>0) (λU=>1) (λU=>2) (λU U=>3) (λU U=>4) (λU=>5)
set_option genInjectivity false in
structure HP where
 s:List aF
 l:List aF
 a:List aF
 v:List aF
 t:List aF
noncomputable def HP.get(H:HP):cr->Option aF
 |.s i=>H.s[i]?
 |.l i=>H.l[i]?
 |.a i=>H.a[i]?
 |.v i=>H.v[i]?
 |.t i=>H.t[i]?
 |.c _=>ai
noncomputable def HP.set(H:HP)(o:aF):cr->HP
 |.s i=>{H with s:=H.s.set i o}
 |.l i=>{H with l:=H.l.set i o}
 |.a i=>{H with a:=H.a.set i o}
 |.v i=>{H with v:=H.v.set i o}
 |.t i=>{H with t:=H.t.set i o}
 |.c _=>H
noncomputable def HP.push(H:HP)(o:aF):dn->HP
 |.s=>{H with s:=H.s++[o]}
 |.l=>{H with l:=H.l++[o]}
 |.a=>{H with a:=H.a++[o]}
 |.v=>{H with v:=H.v++[o]}
 |.t=>{H with t:=H.t++[o]}
noncomputable def HP.next(H:HP):dn->cr
 |.s=> .s H.s.length
 |.l=> .l H.l.length
 |.a=> .a H.a.length
 |.v=> .v H.v.length
 |.t=> .t H.t.length
theorem abF{xs:List aF}:(xs[i]?).isSome=ag↔i<xs.length:=by
 rewrite[uq];exact⟨λ⟨a,e⟩=>(bJ.mp e).1,λh=>⟨_,bV h⟩⟩
theorem V3{xs:List aF}{o:aF}(h:(xs[i]?).isSome=ag){P:Prop}[Decidable P](e:P↔j=i):(xs.set i o)[j]? =if P then ae o else xs[j]? :=by
 refine aa (uj ..) ?_;by_cases z:i=j
 ·subst z
  refine aa (if_pos rfl ..) ?_;refine aa (if_pos (e.mpr rfl) ..) ?_;refine aa (if_pos (abF.mp h) ..) ?_;rfl
 ·(refine aa (if_neg z ..) ?_;refine aa ((if_neg λp=>z (e.mp p).symm) ..) ?_;rfl)
theorem V1{xs:List aF}{o:aF}{P:Prop}[Decidable P](e:P↔j=xs.length):(xs++[o])[j]? =if P then ae o else xs[j]? :=by
 by_cases z:j=xs.length
 ·(refine aa (if_pos (e.mpr z) ..) ?_;refine aa (z ..) ?_;refine aa (sk (bj _) ..) ?_;rewrite[AT]);rfl
 ·refine aa ((if_neg λp=>z (e.mp p)) ..) ?_
  rcases gN z with h|h
  ·(refine aa (ui h ..) ?_;rfl)
  ·(refine aa (iM (by refine aa ((bS) ..) ?_;exact h) ..) ?_;refine aa (iM (jy h) ..) ?_;rfl)
theorem HP.get_set(H:HP)(o:aF)(l l':cr)(h:(H.get l).isSome=ag):(H.set o l).get l'=if l'=l then ae o else H.get l':=by
 cases l<;>cases l'<;>first
  |exact V3 h ⟨λe=>by injection e,congrArg _⟩
  |exact absurd h dG
  |exact(if_neg (λe=>jw (noConfusion_of_Nat cr.ctorIdx e))).symm
theorem HP.vq(H:HP)(o:aF)(f:dn)(l:cr):(H.push o f).get l=if l=H.next f then ae o else H.get l:=by
 cases f<;>cases l<;>first
  |exact V1 ⟨λe=>by injection e,congrArg _⟩
  |exact(if_neg (λe=>jw (noConfusion_of_Nat cr.ctorIdx e))).symm
theorem HP.cS{H:HP}{l:cr}{o:aF}(e:H.get l=ae o):l.cS=ag:=by
 cases l<;>first|rfl|exact ns e
theorem HP.jl(H:HP)(f:dn):(H.next f).cS=ag:=by cases f<;>rfl
theorem HP.vp(H:HP)(f:dn):H.get (H.next f)=ai:=by
 cases f<;>exact iM (bj _)
noncomputable abbrev bz:=cr->Option aL
def to(o:Obj):Prop:=(∃xs n,o.data=.seq xs n)\/∃xs,o.cls=.type "range"/\o.data=.fields xs
inductive G2(β:bz)(h:Heap)(c:String)(R:List Value->Prop)(v:Value):Prop
 |mk (a:aL) (vs:List Value) (n:Nat) (e:v=.ref a) (ho:h.get? a=ae ⟨.type c,ai,.seq (bT vs) n,#[]⟩) (nl:∀l,β l≠ae a) (r:R vs)
inductive PJ{α:Type}(P:α->Prop)(R:List α->Prop)(vs:List α):Prop
 |mk (v:α) (cp:List α) (e:vs=v::cp) (x:P v) (r:R cp)
mutual
noncomputable def aN(β:bz)(h:Heap):PV->Value->Prop
 |.none,v=>v=.none
 |.bool b,v=>v=.bool b
 |.int i,v=>∃t,v=.int i t
 |.str s,v=>∃t,v=.str s t
 |.tup ps,v=>G2 β h "tuple" (λvs=>bf β h ps vs) v
 |.lst ps,v=>G2 β h "list" (λvs=>bf β h ps vs) v
 |.eh n,v=>∃a t u w,v=.ref a/\IsRange h a 0 n 1 t u w/\(∀l,β l≠ae a)/\n<2^31
 |.ak l,v=>∃a,v=.ref a/\β l=ae a/\l.cS=ag
noncomputable def bf(β:bz)(h:Heap):List PV->List Value->Prop
 |[],vs=>vs=[]
 |p::ps,vs=>PJ (λv=>aN β h p v) (λvs=>bf β h ps vs) vs
end
structure Go(T:aL->Prop)(β az:bz)(h h':Heap):Prop where
 sub:∀l a,β l=ae a->az l=ae a
 fresh:∀l a,az l=ae a->β l=ae a\/h.objs.size<=a
 keep:∀a o,h.get? a=ae o->¬T a->(∀l,l.cS=ag->β l≠ae a)->h'.get? a=ae o
 ng:∀a o,h.get? a=ae o->to o->(∀l,β l≠ae a)->h'.get? a=ae o
 size:h.objs.size<=h'.objs.size
abbrev bO:aL->Prop:=λU=>False
theorem Go.refl(T:aL->Prop)(β:bz)(h:Heap):Go T β β h h:=
 ⟨λU U e=>e,λU U e=> .inl e,λU U e U U=>e,λU U e U U=>e,bj _⟩
theorem Go.off{T:aL->Prop}{β az:bz}(g:Go T β az h h'){a:aL}{o:Obj}(e:h.get? a=ae o)(n:∀l,β l≠ae a):∀l,az l≠ae a:=λl e'=>
 (g.fresh l a e').elim (n l) λq=>jV _ (iP (cq e) q)
theorem Go.adF{T:aL->Prop}{β az:bz}(g:Go T β az h h'){a:aL}{o:Obj}(e:h.get? a=ae o)(n:∀l,l.cS=ag->β l≠ae a):∀l,l.cS=ag->az l≠ae a:=λl hl e'=>
 (g.fresh l a e').elim (n l hl) λq=>jV _ (iP (cq e) q)
theorem Go.trans{T:aL->Prop}{β az NP:bz}{JQ:Heap}(x:Go T β az h h')(y:Go T az NP h' JQ):Go T β NP h JQ where
 sub:=λl a e=>y.sub l a (x.sub l a e)
 fresh:=λl a e=>(y.fresh l a e).elim (x.fresh l a) λq=> .inr (dC x.size q)
 keep:=λa o e t n=>y.keep a o (x.keep a o e t n) t (x.adF e n)
 ng:=λa o e t n=>y.ng a o (x.ng a o e t n) t (x.off e n)
 size:=dC x.size y.size
theorem Go.weak{T T':aL->Prop}{β az:bz}(x:Go T β az h h')(i:∀a,T a->T' a):Go T' β az h h':=
 ⟨x.sub,x.fresh,λa o e t n=>x.keep a o e (λq=>t (i a q)) n,x.ng,x.size⟩
structure m0(β az:bz)(h h':Heap):Prop where
 ak:∀l a,l.cS=ag->β l=ae a->az l=ae a
 hd:∀a o,h.get? a=ae o->to o->(∀l,β l≠ae a)->h'.get? a=ae o/\∀l,az l≠ae a
theorem Go.sees{T:aL->Prop}{β az:bz}(g:Go T β az h h'):m0 β az h h':=⟨λl a U=>g.sub l a,λa o e hd nl=>⟨g.ng a o e hd nl,g.off e nl⟩⟩
mutual
theorem aN.sees{β az:bz}(g:m0 β az h h'):∀(p:PV) (v:Value),aN β h p v->aN az h' p v
 |.none,_,x=>x
 |.bool _,_,x=>x
 |.int _,_,x=>x
 |.str _,_,x=>x
 |.tup ps,_,⟨a,vs,n,e,ho,nl,r⟩=>have z:=g.hd _ _ ho (.inl ⟨_,_,rfl⟩) nl;⟨a,vs,n,e,z.1,z.2,bf.sees g ps vs r⟩
 |.lst ps,_,⟨a,vs,n,e,ho,nl,r⟩=>have z:=g.hd _ _ ho (.inl ⟨_,_,rfl⟩) nl;⟨a,vs,n,e,z.1,z.2,bf.sees g ps vs r⟩
 |.eh _,_,⟨a,t,u,w,e,ho,nl,r⟩=>have z:=g.hd _ _ ho (.inr ⟨_,rfl,rfl⟩) nl;⟨a,t,u,w,e,z.1,z.2,r⟩
 |.ak _,_,⟨a,e,q,z⟩=>⟨a,e,g.ak _ _ z q,z⟩
theorem bf.sees{β az:bz}(g:m0 β az h h'):∀(ps:List PV) (vs:List Value),bf β h ps vs->bf az h' ps vs
 |[],_,x=>x
 |p::ps,_,⟨v,cp,e,x,r⟩=>⟨v,cp,e,aN.sees g p v x,bf.sees g ps cp r⟩
end
theorem aN.go{T:aL->Prop}{β az:bz}(g:Go T β az h h')(p:PV)(v:Value)(x:aN β h p v):aN az h' p v:=aN.sees g.sees p v x
theorem bf.go{T:aL->Prop}{β az:bz}(g:Go T β az h h')(ps:List PV)(vs:List Value)(x:bf β h ps vs):bf az h' ps vs:=bf.sees g.sees ps vs x
theorem bf.length{β:bz}:∀{ps:List PV} {vs:List Value},bf β h ps vs->vs.length=ps.length:=by
 intro ps;induction ps with
 |nil=>
  intro _ x;refine aa (x ..) ?_;rfl
 |cons _ _ ih=>
  intro _ dW;rcases dW with⟨_,_,e,_,r⟩
  refine aa (e ..) ?_;refine aa (dX ..) ?_;refine aa (dX ..) ?_;refine aa (ih r ..) ?_;rfl
theorem bf.get{β:bz}:∀{ps:List PV} {vs:List Value},bf β h ps vs->∀{i:Nat} {p:PV},ps[i]? =ae p->∃v,vs[i]? =ae v/\aN β h p v:=by
 intro ps;induction ps with
 |nil=>intro vs hv i p q;exact ns q
 |cons p0 ps ih=>
  intro vs hv i p q;rcases hv with⟨v,cp,e,x,r⟩
  refine aa (e ..) ?_;cases i with
  |zero=>obtain rfl:=so q;exact⟨v,rfl,x⟩
  |succ i=>exact ih r q
theorem bf.append{β:bz}:∀{ps qs:List PV} {vs ws:List Value},bf β h ps vs->bf β h qs ws->bf β h (ps++qs) (vs++ws):=by
 intro ps;induction ps with
 |nil=>
  intro _ _ _ x y;refine aa (x ..) ?_;exact y
 |cons _ _ ih=>
  intro _ _ _ agB y;rcases agB with⟨v,cp,e,x,r⟩
  refine aa (e ..) ?_;exact⟨v,_,rfl,x,ih r y⟩
theorem bf.nil{β:bz}:bf β h [] []:=rfl
theorem bf.cons{β:bz}{p:PV}{ps:List PV}(x:aN β h p v)(r:bf β h ps vs):bf β h (p::ps) (v::vs):=⟨v,vs,rfl,x,r⟩
theorem bf.one{β:bz}{p:PV}(x:aN β h p v):bf β h [p] [v]:=.cons x .nil
theorem bf.drop{β:bz}:∀{ps:List PV} {vs:List Value} (n:Nat),bf β h ps vs->bf β h (ps.drop n) (vs.drop n)
 |_,_,0,x=>by exact x
 |[],_,_+1,x=>by refine aa (x ..) ?_;exact rfl
 |_::_,_,n+1,⟨_,_,e,_,r⟩=>by refine aa (e ..) ?_;exact bf.drop n r
theorem bf.take{β:bz}:∀{ps:List PV} {vs:List Value} (n:Nat),bf β h ps vs->bf β h (ps.take n) (vs.take n)
 |_,_,0,_=>rfl
 |[],_,_+1,x=>by refine aa (x ..) ?_;exact rfl
 |_::_,_,n+1,⟨v,_,e,x,r⟩=>by refine aa (e ..) ?_;exact⟨v,_,rfl,x,bf.take n r⟩
theorem bf.set{β:bz}{p:PV}(x:aN β h p v):∀{ps:List PV} {vs:List Value} (n:Nat),bf β h ps vs->bf β h (ps.set n p) (vs.set n v):=by
 intro ps;induction ps with
 |nil=>intro vs n y;refine aa ((show vs=[]from y) ..) ?_;exact rfl
 |cons p0 ps ih=>
  intro vs n y;rcases y with⟨w,cp,e,y,r⟩
  refine aa (e ..) ?_;cases n with
  |zero=>exact⟨v,_,rfl,x,r⟩
  |succ n=>exact⟨w,_,rfl,y,ih n r⟩
end
variable{Q:PV->HP->Prop}{l:cr}{xs args:List PV}{o:Option aF}{H H0 H':HP}{β az g7:bz}{t tl ex:List aF}{ys:List (List Atom×aL×Value)}{po fd acc o' o2:aF}{q self:PV}{aY:Option dn}{ks:List Atom}{QB:Bool->HP->Prop}{f1 f2:dn}{dj:HP->Prop}
section
set_option genSizeOf false
set_option genSizeOfSpec false
set_option genInjectivity false
noncomputable def Atom.is:Atom->Value->Bool
 |.i n,v=>Pl n v
 |.x s,v=>Pm s v
noncomputable def Atom.pv:Atom->PV
 |.i n=> .int n
 |.x s=> .str s
theorem X8{A:bG}{E:Value->aV->Prop}{a:Int}{t:iw}{b:Str}{u:iw}{Q:Bool->aV->Prop}(h:Q aq s):
 bm (bN prog w) A (eqBool (.int a t) (.str b u)) Q E s:=Gw.int_str a t b u prog w E Q h
theorem X9{A:bG}{E:Value->aV->Prop}{a:Str}{t:iw}{b:Int}{u:iw}{Q:Bool->aV->Prop}(h:Q aq s):
 bm (bN prog w) A (eqBool (.str a t) (.int b u)) Q E s:=Gw.str_int a t b u prog w E Q h
noncomputable def fv(prog:Program)(w:sD):KeyKind prog w Atom where
 is:=Atom.is
 hash:=λk=>match k with|.i n=>(uB prog w).hash n|.x s=>(uE prog w).hash s
 inj:=λv a b ha hb=>by
  cases a<;>cases b
  ·exact congrArg _ ((uB prog w).inj v _ _ ha hb)
  ·(refine aM (oX ha) ?_;rintro t rfl);exact ff hb
  ·(refine aM (oY ha) ?_;rintro t rfl);exact ff hb
  ·exact congrArg _ ((uE prog w).inj v _ _ ha hb)
 byValue:=λk v h=>by
  cases k
  ·exact(uB prog w).byValue _ v h
  ·exact(uE prog w).byValue _ v h
 pyHash:=λ{_ _ _ k _ _} hv h=>by
  cases k
  ·exact(uB prog w).pyHash hv h
  ·exact(uE prog w).pyHash hv h
 eqBool:=λ{_ _ _ a b _ _ _} hu hv h=>by
  cases a<;>cases b
  ·exact(uB prog w).eqBool hu hv (by simpa using h)
  ·(refine aM (oX hu) ?_;rintro t rfl);(refine aM (oY hv) ?_;rintro u rfl);exact X8 (by exact h)
  ·(refine aM (oY hu) ?_;rintro t rfl);(refine aM (oX hv) ?_;rintro u rfl);exact X9 (by exact h)
  ·exact(uE prog w).eqBool hu hv (by simpa using h)
 «strs»:=λk x t v h=>by
  cases k
  ·exact ff h
  ·exact(uE prog w).strs _ x t v h
theorem n0{k:Atom}(x:aN β h k.pv v):k.is v=ag:=by
 cases k<;>(refine aM x ?_;clear x;rintro t rfl)<;>first|exact beq_self_eq_true _|exact decide_eq_true rfl|simp[Atom.is,Pl,Pm]
theorem aek{k:Atom}(x:k.is v=ag):aN β h k.pv v:=by
 cases k
 ·exact oX x
 ·exact oY x
structure Fx where
 prog:Program
 w:sD
 K:Frag
 base:Heap
 os:xt
 gens:Array GenState
 mg:Str->Option Value
 mb:Str->Option Value
noncomputable def aI:Nat:=1000000
inductive PO{K:Type}(k:K)(P:Value->Prop)(R:List (K×Value)->Prop)(ys:List (K×Value)):Prop
 |mk (v:Value) (d7:List (K×Value)) (e:ys=(k,v)::d7) (x:P v) (r:R d7)
inductive PP(k:List Atom)(P:Value->Prop)(P':aL->Prop)(R:List (List Atom×aL×Value)->Prop)(ys:List (List Atom×aL×Value)):Prop
 |mk (a:aL) (v:Value) (d7:List (List Atom×aL×Value)) (e:ys=(k,a,v)::d7) (x:P v) (y:P' a) (r:R d7)
inductive PG(a:At)(P:Value->Prop)(R:List hX->Prop)(es:List hX):Prop
 |mk (hs:Int) (t:iw) (v:Value) (bI:List hX) (e:es=⟨hs,.str a.str t,v⟩::bI) (x:P v) (r:R bI)
noncomputable def dY(β:bz)(h:Heap){K:Type}:List (K×PV)->List (K×Value)->Prop
 |[],ys=>ys=[]
 |(k,p)::xs,ys=>PO k (λv=>aN β h p v) (λys=>dY β h xs ys) ys
noncomputable def fM(X:Fx)(β:bz)(h:Heap):List (List Atom×PV)->List (List Atom×aL×Value)->Prop
 |[],ys=>ys=[]
 |(k,p)::xs,ys=>PP k (λv=>aN β h p v) (λa=>aN β h (.tup (k.map Atom.pv)) (.ref a)) (λys=>fM X β h xs ys) ys
noncomputable def gy(β:bz)(h:Heap):List (At×PV)->List hX->Prop
 |[],es=>es=[]
 |(a,p)::xs,es=>PG a (λv=>aN β h p v) (λes=>gy β h xs es) es
inductive PW(c:String)(R:List Value->Prop)(k:Nat)(o:Obj):Prop
 |mk (vs:List Value) (n:Nat) (e:o=⟨.type c,ai,.seq (bT vs) n,#[]⟩) (r:R vs) (z:k<=aI)
inductive G0(X:Fx)(R:List (Atom×Value)->Prop)(k:Nat)(o:Obj):Prop
 |mk (ys:List (Atom×Value)) (e:o.IsDictOf (fv X.prog X.w) ys) (r:R ys) (z:k<=aI)
inductive PM(X:Fx)(R:List (List Atom×aL×Value)->Prop)(k:Nat)(o:Obj):Prop
 |mk (es:Array hX) (n:Nat) (ys:List (List Atom×aL×Value)) (e:o=⟨.type "dict",ai,.dict es n,#[]⟩) (q:es.toList=ys.map (entryOfKey (pi (fv X.prog X.w)))) (nd:(ys.map (·.1)).Nodup) (r:R ys) (z:k<=aI)
def iT(X:Fx)(β:bz)(h:Heap):aF->Obj->Prop
 |.list ps,o=>PW "list" (λvs=>bf β h ps vs) ps.length o
 |.aH xs,o=>G0 X (λys=>dY β h xs ys) xs.length o
 |.bL xs,o=>PM X (λys=>fM X β h xs ys) xs.length o
 |.fB o' xs,o=>o=o'/\G0 X (λys=>dY β h xs ys) xs.length o
 |.inst C d,o=>∃dx,o=pa C.addr dx/\β d=ae dx/\d.cS=ag
 |.attrs xs,o=>∃es n,o=dictOf es n/\gy β h xs es/\xs.length<=40
inductive PY(β:bz)(h:Heap)(R:Obj->Prop)(l:cr):Prop
 |mk (a:aL) (o:Obj) (e:β l=ae a) (ho:h.get? a=ae o) (r:R o)
structure aW(X:Fx)(β:bz)(H:HP)(s:aV):Prop where
 top:∀b o,X.base.get? b=ae o->s.heap.get? b=ae o
 os:s.os=X.os
 gens:s.gens=X.gens
 inj:∀l l' a,β l=ae a->β l'=ae a->l=l'
 off:∀l a,β l=ae a->X.base.objs.size<=a
 lo:X.base.objs.size<=s.heap.objs.size
 obj:∀l po,H.get l=ae po->PY β s.heap (λo=>iT X β s.heap po o) l
 gU:∀l,l.cS=ag->H.get l=ai->β l=ai
 nz:∃N,∀i,N<=i->β (.c i)=ai
 lU:∀i a,β (.c i)=ae a->∃o,s.heap.get? a=ae o
theorem dY.sees{K:Type}(g:m0 β az h h'):∀{xs:List (K×PV)} {ys:List (K×Value)},dY β h xs ys->dY az h' xs ys:=by
 intro xs;induction xs with
 |nil=>
  intro _ x;exact x
 |cons dP _ ih=>
  rcases dP with⟨_,p⟩
  intro _ dW;rcases dW with⟨v,d7,e,x,r⟩
  exact⟨v,d7,e,aN.sees g p v x,ih r⟩
theorem fM.sees{X:Fx}(g:m0 β az h h'):∀{xs:List (List Atom×PV)} {ys:List (List Atom×aL×Value)},fM X β h xs ys->fM X az h' xs ys:=by
 intro xs;induction xs with
 |nil=>
  intro _ x;exact x
 |cons dP _ ih=>
  rcases dP with⟨_,p⟩
  intro _ dW;rcases dW with⟨a,v,d7,e,x,y,r⟩
  exact⟨a,v,d7,e,aN.sees g p v x,aN.sees g _ _ y,ih r⟩
theorem gy.sees(g:m0 β az h h'):∀{xs:List (At×PV)} {es:List hX},gy β h xs es->gy az h' xs es:=by
 intro xs;induction xs with
 |nil=>
  intro _ x;exact x
 |cons dP _ ih=>
  rcases dP with⟨_,p⟩
  intro _ dW;rcases dW with⟨hs,t,v,bI,e,x,r⟩
  exact⟨hs,t,v,bI,e,aN.sees g p v x,ih r⟩
theorem iT.sees{X:Fx}(g:m0 β az h h'):∀{po:aF} {o:Obj},iT X β h po o->iT X az h' po o:=by
 intro po o x;cases po with
 |list=>rcases x with⟨vs,n,e,r,z⟩;exact⟨vs,n,e,bf.sees g _ _ r,z⟩
 |aH=>rcases x with⟨ys,e,r,z⟩;exact⟨ys,e,r.sees g,z⟩
 |bL=>rcases x with⟨es,n,ys,e,q,nd,r,z⟩;exact⟨es,n,ys,e,q,nd,r.sees g,z⟩
 |fB=>(refine aK x ?_;clear x;intro e0 aj;rcases aj with⟨ys,e,r,z⟩);exact⟨e0,ys,e,r.sees g,z⟩
 |inst=>(refine cb x ?_;clear x;intro dx e q z);exact⟨dx,e,g.ak _ _ z q,z⟩
 |attrs=>(refine kC x ?_;clear x;intro es n e r z);exact⟨es,n,e,r.sees g,z⟩
section
variable{X:Fx}{T:aL->Prop}{K:Type}
theorem dY.go(g:Go T β az h h'){xs:List (K×PV)}{ys:List (K×Value)}(x:dY β h xs ys):dY az h' xs ys:=x.sees g.sees
theorem fM.go(g:Go T β az h h'){xs:List (List Atom×PV)}(x:fM X β h xs ys):fM X az h' xs ys:=x.sees g.sees
theorem gy.go(g:Go T β az h h'){xs:List (At×PV)}{es:List hX}(x:gy β h xs es):gy az h' xs es:=x.sees g.sees
theorem iT.go(g:Go T β az h h'){o:Obj}(x:iT X β h po o):iT X az h' po o:=x.sees g.sees
end
theorem aW.lt{X:Fx}(r:aW X β H s){a:aL}(e:β l=ae a):a<s.heap.objs.size:=by
 by_cases hp:l.cS=ag
 ·cases q:H.get l with
  |none=>rw[r.gU l hp q]at e;exact ns e
  |some po=>
   rcases(r.obj l po q)with⟨a',o,e',ho,_⟩
   rw[e']at e;obtain rfl:=(so e).symm;exact cq ho
 ·cases l<;>first|exact absurd rfl hp|((refine aM (r.lU _ _ e) ?_;intro o ho);exact cq ho)
theorem aW.mE{X:Fx}(r:aW X β H s){a:aL}(h:s.heap.objs.size<=a):∀l,β l≠ae a:=λl e=>jV _ (iP (r.lt e) h)
theorem aW.IE{X:Fx}(r:aW X β H s){a:aL}{o:Obj}(h:X.base.get? a=ae o):∀l,β l≠ae a:=λl e=>jV _ (iP (cq h) (r.off l a e))
theorem aW.keep{X:Fx}{T:aL->Prop}(r:aW X β H s)(g:Go T β β s.heap s'.heap)(hT:∀a,T a->X.base.objs.size<=a)(hP:∀i a,β (.c i)=ae a->T a->∃o,s'.heap.get? a=ae o)(ho:s'.os=s.os)(hg:s'.gens=s.gens)
 (hk:∀l a,l.cS=ag->β l=ae a->s'.heap.get? a=s.heap.get? a):aW X β H s' where
 top:=λb o e=>g.keep b o (r.top b o e) (λt=>jV _ (iP (cq e) (hT b t))) (λl U=>r.IE e l)
 os:=ho.trans r.os
 gens:=hg.trans r.gens
 inj:=r.inj
 off:=r.off
 lo:=dC r.lo g.size
 obj:=λl po e=>let⟨a,o,e1,e2,e3⟩:=r.obj l po e;⟨a,o,e1,(hk l a (HP.cS e) e1).trans e2,e3.go g⟩
 gU:=r.gU
 nz:=r.nz
 lU:=λi a e=>by
  refine aM (r.lU i a e) ?_;intro o ho;by_cases t:T a
  ·exact hP i a e t
  ·exact⟨o,g.keep a o ho t λl hp e'=>by have:=r.inj _ _ _ e e';subst this;exact ff hp⟩
theorem Go.of_keep{T:aL->Prop}(hk:∀b o,h.get? b=ae o->h'.get? b=ae o)(hs:h.objs.size<=h'.objs.size):Go T β β h h':=
 ⟨λU U e=>e,λU U e=> .inl e,λb o e U U=>hk b o e,λb o e U U=>hk b o e,hs⟩
theorem aW.grow{X:Fx}(r:aW X β H s)(hk:∀b o,s.heap.get? b=ae o->h'.get? b=ae o)(hs:s.heap.objs.size<=h'.objs.size):
 aW X β H {s with heap:=h',toks:=tk}:=
 r.keep (T:=bO) (Go.of_keep hk hs) (λU t=>t.elim) (λU U U t=>t.elim) rfl rfl λl a hp e=>by
  cases q:H.get l with
  |none=>rw[r.gU l hp q]at e;exact ns e
  |some po=>rcases(r.obj l po q)with⟨a',o,e',ho,_⟩;rw[e']at e;obtain rfl:=(so e).symm;exact(hk _ _ ho).trans ho.symm
theorem aW.tok{X:Fx}(r:aW X β H s)(tk:Nat):aW X β H {s with toks:=tk}:=
 r.grow (s:=s) (h':=s.heap) (λU U e=>e) (bj _)
theorem Go.pZ{T:aL->Prop}{a:aL}(hp:l.cS=ag)(e:β l=ae a)(hs:jW a h h'):Go T β β h h':=
 ⟨λU U e=>e,λU U e=> .inl e,λb o q U n=>(hs.2 b (λz=>n l hp (z▸e))).trans q,λb o q U n=>(hs.2 b (λz=>n l (z▸e))).trans q,au hs.1.symm⟩
theorem aW.set{X:Fx}(r:aW X β H s){a:aL}{ky:aF}{o':Obj}(hp:l.cS=ag)(e:β l=ae a)(hs:jW a s.heap h')
 (ho:h'.get? a=ae o')(hr:iT X β h' ky o'):aW X β (H.set ky l) {s with heap:=h',toks:=tk}:=by
 have g:Go bO β β s.heap h':=Go.pZ hp e hs;have hl:(H.get l).isSome=ag:=by
  cases q:H.get l with
  |none=>rw[r.gU l hp q]at e;exact ns e
  |some _=>rfl
 refine⟨λb o q=>g.keep b o (r.top b o q) (λt=>t.elim) (λl U=>r.IE q l),r.os,r.gens,r.inj,r.off,dC r.lo g.size,λl' po q=>?_,λl' il q=>?_,r.nz,λi b e'=>?_⟩
 ·rw[HP.get_set H ky l l' hl]at q
  by_cases rB:l'=l
  ·rw[if_pos rB]at q;obtain rfl:=so q;subst rB
   exact⟨a,o',e,ho,hr⟩
  ·rw[if_neg rB]at q
   rcases(r.obj l' po q)with⟨b,o,e1,e2,e3⟩
   exact⟨b,o,e1,(hs.2 b (λz=>rB (r.inj _ _ _ e1 (z▸e)))).trans e2,e3.go g⟩
 ·rw[HP.get_set H ky l l' hl]at q
  by_cases rB:l'=l
  ·rw[if_pos rB]at q;exact sn q
  ·rw[if_neg rB]at q;exact r.gU l' il q
 ·(refine aM (r.lU i b e') ?_;intro o ho)
  exact⟨o,(hs.2 b (λz=>by have:=r.inj _ _ _ e' (z▸e);subst this;exact ff hp)).trans ho⟩
noncomputable def bz.put(β:bz)(l:cr)(a:aL):bz:=λl'=>if l'=l then ae a else β l'
theorem aW.push{X:Fx}(r:aW X β H s){a:aL}{o:Obj}(f:dn)(ha:s.heap.objs.size<=a)
 (hk:∀b x,s.heap.get? b=ae x->h'.get? b=ae x)(hs:s.heap.objs.size<=h'.objs.size)(ho:h'.get? a=ae o)(hr:iT X (β.put (H.next f) a) h' po o):
 aW X (β.put (H.next f) a) (H.push po f) {s with heap:=h',toks:=tk}/\Go bO β (β.put (H.next f) a) s.heap h':=by
 have g:Go bO β (β.put (H.next f) a) s.heap h':=by
  refine⟨λl b e=>?_,λl b e=>?_,λb x q U U=>hk b x q,λb x q U U=>hk b x q,hs⟩
  ·unfold bz.put
   refine aa (if_neg (λz=>by rw[z,(r.gU _ (H.jl f) (H.vp f))]at e;exact ns e) ..) ?_;exact e
  ·unfold bz.put at e
   by_cases hl:l=H.next f
   ·rw[if_pos hl]at e;obtain rfl:=so e;exact .inr ha
   ·rw[if_neg hl]at e;exact .inl e
 refine⟨⟨λb x q=>hk b x (r.top b x q),r.os,r.gens,λl l' b e e'=>?_,λl b e=>?_,dC r.lo hs,λl p q=>?_,λl hp q=>?_,?_,λi b e=>?_⟩,g⟩
 ·unfold bz.put at e e'
  by_cases hl:l=H.next f<;>by_cases ij:l'=H.next f
  ·(refine aa (hl ..) ?_;refine aa (ij ..) ?_;rfl)
  ·rw[if_pos hl]at e;rw[if_neg ij]at e';obtain rfl:=so e;exact absurd (r.lt e') (l9.mpr ha)
  ·rw[if_neg hl]at e;rw[if_pos ij]at e';obtain rfl:=so e';exact absurd (r.lt e) (l9.mpr ha)
  ·rw[if_neg hl]at e;rw[if_neg ij]at e';exact r.inj _ _ _ e e'
 ·unfold bz.put at e
  by_cases hl:l=H.next f
  ·rw[if_pos hl]at e;obtain rfl:=so e;exact dC r.lo ha
  ·rw[if_neg hl]at e;exact r.off _ _ e
 ·rw[HP.vq]at q
  by_cases hl:l=H.next f
  ·rw[if_pos hl]at q;obtain rfl:=so q
   exact⟨a,o,by unfold bz.put;(refine aa (if_pos hl ..) ?_;rfl),ho,hr⟩
  ·rw[if_neg hl]at q
   rcases(r.obj l p q)with⟨b,x,e1,e2,e3⟩
   exact⟨b,x,by unfold bz.put;refine aa (if_neg hl ..) ?_;exact e1,hk _ _ e2,e3.go g⟩
 ·rw[HP.vq]at q
  by_cases hl:l=H.next f
  ·rw[if_pos hl]at q;exact sn q
  ·rw[if_neg hl]at q
   unfold bz.put;refine aa (if_neg hl ..) ?_;exact r.gU l hp q
 ·(refine aM r.nz ?_;intro N hN)
  refine⟨N,λi hi=>?_⟩;unfold bz.put;refine aa (if_neg (λz=>by have:=H.jl f;rw[<-z]at this;exact ff this) ..) ?_;exact hN i hi
 ·unfold bz.put at e
  rw[if_neg (λz=>by have:=H.jl f;rw[<-z]at this;exact ff this)]at e
  (refine aM (r.lU i b e) ?_;intro o ho);exact⟨o,hk _ _ ho⟩
noncomputable abbrev aJ:=List (Option PV)
noncomputable abbrev Vm:=List (Nat×Str)
def P3(env:Env)(β:bz)(h:Heap)(m:Str->Option Value)(p:PV)(x:Str):Prop:=
 ∃v,aN β h p v/\((env.kindOf x=ae .local/\m x=ae v)\/((env.kindOf x=ae .cell\/env.kindOf x=ae .free)/\∃c,env.cells.lookup x=ae c/\h.IsCell c (ae v)))
structure et(X:Fx)(env:Env):Prop where
 kind:env.scope.kind=.function
 glob:env.globals=nT
 blt:env.builtins=A9
 lo:X.base.objs.size<=env.locals
 pF:∀n c,env.cells.lookup n=ae c->X.base.objs.size<=c/\c≠env.locals
 apart:∀n n' c,env.cells.lookup n=ae c->env.cells.lookup n'=ae c->n=n'
 Cs:∀x,env.kindOf x=ae .cell->(env.cells.lookup x).isSome=ag
structure di(X:Fx)(env:Env)(vm:Vm)(β:bz)(ρ:aJ)(s:aV):Prop where
 ns:∃m,s.heap.Ns env.locals m/\∀i x p,vm.lookup i=ae x->ρ.getD i ai=ae p->P3 env β s.heap m p x
 tJ:∀l,β l≠ae env.locals
 cells:∀n c,env.cells.lookup n=ae c->(∃v,s.heap.IsCell c v)/\∀l,β l≠ae c
def fn(env:Env):aL->Prop:=λa=>a=env.locals\/∃n,env.cells.lookup n=ae a
theorem Go.cell{T:aL->Prop}(g:Go T β az h h'){c:aL}{v:Option Value}(x:h.IsCell c v)(t:¬T c)(n:∀l,β l≠ae c):h'.IsCell c v:=
 let⟨o,ho,hd⟩:=x;⟨o,g.keep c o ho t (λl U=>n l),hd⟩
theorem Go.ns{T:aL->Prop}(g:Go T β az h h'){c:aL}{m:Str->Option Value}(x:h.Ns c m)(t:¬T c)(n:∀l,β l≠ae c):h'.Ns c m:=
 let⟨o,es,ep,ho,r⟩:=x;⟨o,es,ep,g.keep c o ho t (λl U=>n l),r⟩
theorem di.go{X:Fx}{vm:Vm}{ρ:aJ}{T:aL->Prop}(r:di X env vm β ρ s)(g:Go T β az s.heap s'.heap)(hT:∀a,fn env a->¬T a):
 di X env vm az ρ s':=by
 rcases r with⟨⟨m,hm,hv⟩,lo,cs⟩
 have hc:∀n c,env.cells.lookup n=ae c->∀v,s.heap.IsCell c v->s'.heap.IsCell c v:=λn c e v x=>g.cell x (hT c (.inr ⟨n,e⟩)) (cs n c e).2;refine⟨⟨m,g.ns hm (hT _ (.inl rfl)) lo,λi x p e q=>?_⟩,?_,λn c e=>?_⟩
 ·(refine ay (hv i x p e q) ?_;intro v hr k)
  refine⟨v,aN.go g p v hr,k.imp id λzq=>by(refine aK zq ?_;clear zq;intro k1 aj;refine ay aj ?_;clear aj;intro c k2 k3);exact⟨k1,c,k2,hc _ _ k2 _ k3⟩⟩
 ·(refine fL hm ?_;clear hm;intro o aj aB ho aS)
  exact g.off ho lo
 ·(refine aK (cs n c e) ?_;intro aj n';refine aM aj ?_;clear aj;intro v eA)
  refine⟨⟨v,hc n c e v eA⟩,?_⟩;refine ay eA ?_;clear eA;intro o ho aj;exact g.off ho n'
end
variable{vm dL:Vm}{ρ:aJ}{QA:aJ->HP->Prop}{gt:aJ->HP->(Bool->HP->Prop)->Prop}{Q':aJ->aF->HP->Prop}{asg:PV->aJ->HP->(aJ->HP->Prop)->Prop}
section
structure cE(n:Nat)(A:bG):Prop where
 depth:A.depth+3*n+5<recursionLimit
 units:A.units+200+20*n<cLine
 hd:A.handled=ai
theorem cE.in1{n:Nat}{A:bG}(r:cE (n+1) A):cE n A.in1:=
 ⟨by have:=r.depth;show A.depth+_+_<_;exact a1 this,by have:=r.units;show A.units+1+_+_<_;exact a2 this,r.hd⟩
theorem cE.le{n:Nat}{A:bG}(r:cE n A)(h:m<=n):cE m A:=
 ⟨by have:=r.depth;exact a3 h this,by have:=r.units;exact a4 h this,r.hd⟩
theorem cE.deeper{n:Nat}{A:bG}(r:cE (n+1) A)(env:Env):cE n (A.deeper env):=
 ⟨by have:=r.depth;show A.depth+1+_+_<_;exact a5 this,by have:=r.units;show A.units+3+_+_<_;exact a6 this,r.hd⟩
theorem cE.u{n:Nat}{A:bG}(r:cE n A):A.units<cLine:=by have:=r.units;exact a7 this
theorem cE.u1{n:Nat}{A:bG}(r:cE n A):A.in1.units<cLine:=by have:=r.units;show A.units+1<cLine;exact a8 this
theorem cE.d{n:Nat}{A:bG}(r:cE n A):A.depth<recursionLimit:=by have:=r.depth;exact Bz this
abbrev FF:Value->aV->Prop:=λU U=>False
inductive bn(X:Fx)(β:bz)(h:Heap)(Q:PV->HP->Prop)(v:Value)(s':aV):Prop
 |mk (p:PV) (az:bz) (H':HP) (r:aW X az H' s') (vr:aN az s'.heap p v) (g:Go bO β az h s'.heap) (q:Q p H')
inductive xQ(X:Fx)(β:bz)(h:Heap)(Q:List PV->HP->Prop)(vs:List Value)(s':aV):Prop
 |mk (ps:List PV) (az:bz) (H':HP) (r:aW X az H' s') (vr:bf az s'.heap ps vs) (g:Go bO β az h s'.heap) (q:Q ps H')
inductive iU(X:Fx)(β:bz)(h:Heap)(Q:Bool->HP->Prop)(b:Bool)(s':aV):Prop
 |mk (az:bz) (H':HP) (r:aW X az H' s') (g:Go bO β az h s'.heap) (q:Q b H')
theorem bn.trans{X:Fx}(g:Go bO β az h h')(x:bn X az h' Q v s'):bn X β h Q v s':=
 let⟨p,b,H,r,vr,g',q⟩:=x;⟨p,b,H,r,vr,g.trans g',q⟩
theorem xQ.trans{X:Fx}{Q:List PV->HP->Prop}{v:List Value}(g:Go bO β az h h')(x:xQ X az h' Q v s'):xQ X β h Q v s':=
 let⟨p,b,H,r,vr,g',q⟩:=x;⟨p,b,H,r,vr,g.trans g',q⟩
theorem iU.trans{X:Fx}{Q:Bool->HP->Prop}{v:Bool}(g:Go bO β az h h')(x:iU X az h' Q v s'):iU X β h Q v s':=
 let⟨b,H,r,g',q⟩:=x;⟨b,H,r,g.trans g',q⟩
theorem bn.mono{X:Fx}{R:PV->HP->Prop}(x:bn X β h Q v s')(i:∀p H,Q p H->R p H):bn X β h R v s':=
 let⟨p,b,H,r,vr,g',q⟩:=x;⟨p,b,H,r,vr,g',i _ _ q⟩
theorem bn.tok{X:Fx}{p:PV}(r:aW X β H s)(hv:aN β s.heap p v)(q:Q p H):bn X β s.heap Q v {s with toks:=tk}:=
 ⟨p,β,H,r.tok tk,hv,Go.refl _ _ _,q⟩
theorem bn.same{X:Fx}{p:PV}(r:aW X β H s)(hv:aN β s.heap p v)(q:Q p H):bn X β s.heap Q v s:=
 ⟨p,β,H,r,hv,Go.refl _ _ _,q⟩
theorem iU.tok{X:Fx}{Q:Bool->HP->Prop}{b:Bool}(r:aW X β H s)(q:Q b H):iU X β s.heap Q b {s with toks:=tk}:=
 ⟨β,H,r.tok tk,Go.refl _ _ _,q⟩
theorem iU.same{X:Fx}{Q:Bool->HP->Prop}{b:Bool}(r:aW X β H s)(q:Q b H):iU X β s.heap Q b s:=
 ⟨β,H,r,Go.refl _ _ _,q⟩
abbrev Wp(X:Fx)(A:bG){α:Type}(t:eL α)(Q:α->aV->Prop)(s:aV):Prop:=bm (bN X.prog X.w) A t Q FF s
def bg(X:Fx)(n:Nat)(env:Env)(vm:Vm)(e:Expr)(ρ:aJ)(H:HP)(Q:PV->HP->Prop):Prop:=
 ∀A β s,cE n A->aW X β H s->di X env vm β ρ s->Wp X A (bU e env) (bn X β s.heap Q) s
def ic(X:Fx)(n:Nat)(env:Env)(vm:Vm)(e:Expr)(ρ:aJ)(H:HP)(Q:Bool->HP->Prop):Prop:=
 ∀A β s,cE n A->aW X β H s->di X env vm β ρ s->Wp X A (sG e env (bU e env)) (iU X β s.heap Q) s
theorem ny(env:Env):∀a,fn env a->¬bO a:=λU U x=>x
theorem bg.bind{X:Fx}{n:Nat}{α:Type}{f:Value->eL α}{P:α->aV->Prop}{A:bG}
 (h:bg X n env vm e ρ H Q)(ra:cE n A)(r:aW X β H s)(rf:di X env vm β ρ s)
 (k:∀p v az H' s',aW X az H' s'->di X env vm az ρ s'->aN az s'.heap p v->Go bO β az s.heap s'.heap->Q p H'->Wp X A (f v) P s'):Wp X A (bU e env>>=f) P s:=
 ax (bP (h A β s ra r rf) (λv s' zq=>by rcases zq with⟨p,az,H',r',vr,g,q⟩;exact k p v az H' s' r' (rf.go g (ny env)) vr g q) λU U x=>x)
theorem bg.run{X:Fx}{n:Nat}{A:bG}
 (h:bg X n env vm e ρ H Q)(ra:cE n A)(r:aW X β H s)(rf:di X env vm β ρ s)
 (k:∀p v az H' s',aW X az H' s'->di X env vm az ρ s'->aN az s'.heap p v->Go bO β az s.heap s'.heap->Q p H'->P v s'):Wp X A (bU e env) P s:=
 bP (h A β s ra r rf) (λv s' zq=>by rcases zq with⟨p,az,H',r',vr,g,q⟩;exact k p v az H' s' r' (rf.go g (ny env)) vr g q) λU U x=>x
mutual
noncomputable def PV.data:PV->PyData
 |.none=> .none
 |.bool b=> .bool b
 |.int i=> .int i
 |.str s=> .str s
 |.tup ps=> .tuple (PV.m8 ps)
 |.lst ps=> .list (PV.m8 ps)
 |.eh _=> .none
 |.ak _=> .none
noncomputable def PV.m8:List PV->List PyData
 |[]=>[]
 |p::ps=>PV.data p::PV.m8 ps
end
mutual
noncomputable def PV.plain:PV->Bool
 |.none|.bool _|.int _=>ag
 |.str s=>PyData.canLay0 (.str s)
 |.tup ps=>PV.p8 ps
 |.lst ps=>PV.p8 ps
 |.eh _=>aq
 |.ak _=>aq
noncomputable def PV.p8:List PV->Bool
 |[]=>ag
 |p::ps=>PV.plain p&&PV.p8 ps
end
mutual
theorem aN.reads:∀(p:PV) (v:Value),aN β h p v->p.plain=ag->∃as,Reads h v p.data as
 |.none,_,e,_=>by refine aa ((show _=jA from e) ..) ?_;exact⟨_,.none⟩
 |.bool b,_,e,_=>by refine aa ((show _=A5 b from e) ..) ?_;exact⟨_,.bool b⟩
 |.int i,_,⟨t,e⟩,_=>by refine aa (e ..) ?_;exact⟨_,.int i t⟩
 |.str x,_,⟨t,e⟩,_=>by refine aa (e ..) ?_;exact⟨_,.str x t⟩
 |.tup ps,_,⟨a,vs,n,e,ho,_,r⟩,hp=>by
  refine aa (e ..) ?_;refine aM (bf.reads ps vs r hp) ?_;intro as ra;exact⟨_,.tuple ho rfl rfl (by exact ra)⟩
 |.lst ps,_,⟨a,vs,n,e,ho,_,r⟩,hp=>by
  refine aa (e ..) ?_;refine aM (bf.reads ps vs r hp) ?_;intro as ra;exact⟨_,.list ho rfl rfl (by exact ra)⟩
 |.eh _,_,_,hp=>ff hp
 |.ak _,_,_,hp=>ff hp
theorem bf.reads:∀(ps:List PV) (vs:List Value),bf β h ps vs->PV.p8 ps=ag->∃as,ReadsAll h vs (PV.m8 ps) as
 |[],_,e,_=>by refine aa ((show _=([]:List Value)from e) ..) ?_;exact⟨_,.nil⟩
 |p::ps,_,⟨v,cp,e,x,r⟩,hp=>by
  refine aM (aN.reads p v x (bl hp)) ?_;intro as ra;refine aM (bf.reads ps cp r (br hp)) ?_;intro bs rb;refine aa (e ..) ?_;exact⟨_,.cons ra rb⟩
end
mutual
theorem PV.ri:∀(p:PV),p.plain=ag->p.data.canLay0=ag
 |.none,_=>rfl
 |.bool _,_=>rfl
 |.int _,_=>rfl
 |.str _,h=>h
 |.tup ps,h=>PV.Cr ps h
 |.lst ps,h=>PV.Cr ps h
 |.eh _,h=>ff h
 |.ak _,h=>ff h
theorem PV.Cr:∀(ps:List PV),PV.p8 ps=ag->PyData.canLayAll0 (PV.m8 ps)=ag
 |[],_=>rfl
 |p::ps,h=>bb (PV.ri p (bl h)) (PV.Cr ps (br h))
end
noncomputable def PV.eqv(p q:PV):Bool:=PyData.eqv p.data q.data
def PV.jc(p q:PV):Prop:=p.plain=ag/\q.plain=ag/\min p.data.depth q.data.depth<=60
theorem W5{X:Fx}{n:Nat}{A:bG}{p:PV}{a b:Value}{Q:Value->aV->Prop}(ra:cE n A)(x:aN β s.heap p a)(y:aN β s.heap q b)(c:p.jc q)(h:Q (.bool (p.eqv q)) s):
 Wp X A (qQ .Eq a b) Q s:=by
 refine aM (aN.reads p a x c.1) ?_;intro as r1;refine aM (aN.reads q b y c.2.1) ?_;intro bs r2;exact SeqAt.compareEq_reads r1 r2 (PV.ri p c.1) (PV.ri q c.2.1) (by have:=ra.units;have:=c.2.2;exact xS (by assumption) this) h
theorem Xa{X:Fx}{n:Nat}{A:bG}{p:PV}{a b:Value}{Q:Value->aV->Prop}(ra:cE n A)(x:aN β s.heap p a)(y:aN β s.heap q b)(c:p.jc q)(h:Q (.bool (!p.eqv q)) s):
 Wp X A (qQ .NotEq a b) Q s:=by
 refine aM (aN.reads p a x c.1) ?_;intro as r1;refine aM (aN.reads q b y c.2.1) ?_;intro bs r2;exact SeqAt.compareNe_reads r1 r2 (PV.ri p c.1) (PV.ri q c.2.1) (by have:=ra.units;have:=c.2.2;exact xS (by assumption) this) h
theorem X7{A:bG}{p:PV}{a b:Value}(hu:A.units+100<cLine)(x:aN β s.heap p a)(y:aN β s.heap q b)(c:p.jc q):Gw A s a b (p.eqv q):=by
 refine aM (aN.reads p a x c.1) ?_;intro as r1;refine aM (aN.reads q b y c.2.1) ?_;intro bs r2;exact SeqAt.eqAt_reads _ _ A s a b _ _ r1 r2 (PV.ri p c.1) (PV.ri q c.2.1) (by have:=c.2.2;exact BC hu this)
end
section
def eb(aY:Option dn)(ps:List PV)(H:HP)(Q:PV->HP->Prop):Prop:=
 ps.length<=aI/\match aY with
 |none=>Q (.lst ps) H
 |some f=>Q (.ak (H.next f)) (H.push (.list ps) f)
theorem aW.YZ{X:Fx}(r:aW X β H s)(hk:∀b o,s.heap.get? b=ae o->s'.heap.get? b=ae o)(hs:s.heap.objs.size<=s'.heap.objs.size)(ho:s'.os=s.os)(hg:s'.gens=s.gens):aW X β H s':=
 r.keep (T:=bO) (Go.of_keep hk hs) (λU t=>t.elim) (λU U U t=>t.elim) ho hg λl a hp e=>by
  cases q:H.get l with
  |none=>rw[r.gU l hp q]at e;exact ns e
  |some po=>rcases(r.obj l po q)with⟨a',o,e',ho,_⟩;rw[e']at e;obtain rfl:=(so e).symm;exact(hk _ _ ho).trans ho.symm
theorem MC{ps:List PV}{a:aL}{n:Nat}(ho:h.get? a=ae ⟨.type "list",ai,.seq (bT vs) n,#[]⟩)(nl:∀l,β l≠ae a)(r:bf β h ps vs):aN β h (.lst ps) (.ref a):=⟨a,vs,n,rfl,ho,nl,r⟩
theorem MD{ps:List PV}{a:aL}{n:Nat}(ho:h.get? a=ae ⟨.type "tuple",ai,.seq (bT vs) n,#[]⟩)(nl:∀l,β l≠ae a)(r:bf β h ps vs):aN β h (.tup ps) (.ref a):=⟨a,vs,n,rfl,ho,nl,r⟩
theorem qa{a:aL}(hp:l.cS=ag)(e:β l=ae a):aN β h (.ak l) (.ref a):=⟨a,rfl,e,hp⟩
theorem oA{i:Int}{t:iw}:aN β h (.int i) (.int i t):=⟨t,rfl⟩
theorem rV{t:iw}:aN β h (.str x) (.str x t):=⟨t,rfl⟩
theorem wB{b:Bool}:aN β h (.bool b) (.bool b):=rfl
theorem wC:aN β h .none .none:=rfl
theorem bn.pW{X:Fx}{ps:List PV}{a:aL}{n:Nat}(r:aW X β H s)(hv:bf β s.heap ps vs)
 (ha:s.heap.objs.size<=a)(hk:∀b x,s.heap.get? b=ae x->h'.get? b=ae x)(hs:s.heap.objs.size<=h'.objs.size)(ho:h'.get? a=ae ⟨.type "list",ai,.seq (bT vs) n,#[]⟩)(q:eb aY ps H Q):
 bn X β s.heap Q (.ref a) {s with heap:=h',toks:=tk}:=by
 cases aY with
 |none=>
  have g:Go bO β β s.heap h':=Go.of_keep hk hs;exact⟨_,β,H,r.grow hk hs,MC ho (r.mE ha) (bf.go g _ _ hv),g,q.2⟩
 |some f=>
  have g:Go bO β β s.heap h':=Go.of_keep hk hs
  (refine aK (r.push (h':=h') (tk:=tk) (po:=.list ps) f ha hk hs ho (by
    refine⟨vs,n,rfl,bf.go (?_:Go bO β (β.put (H.next f) a) s.heap h') _ _ hv,q.1⟩;refine⟨λl b e=>?_,λl b e=>?_,λb x q U U=>hk b x q,λb x q U U=>hk b x q,hs⟩
    ·unfold bz.put;refine aa (if_neg (λz=>by rw[z,r.gU _ (H.jl f) (H.vp f)]at e;exact ns e) ..) ?_;exact e
    ·unfold bz.put at e
     by_cases hl:l=H.next f
     ·rw[if_pos hl]at e;obtain rfl:=so e;exact .inr ha
     ·rw[if_neg hl]at e;exact .inl e)) ?_;intro r' g')
  exact⟨_,_,_,r',qa (H.jl f) (by unfold bz.put;(refine aa (if_pos rfl ..) ?_;rfl)),g',q.2⟩
theorem bn.EH{X:Fx}{ps:List PV}{a:aL}{n:Nat}(r:aW X β H s)(hv:bf β s.heap ps vs)
 (ha:s.heap.objs.size<=a)(hk:∀b x,s.heap.get? b=ae x->h'.get? b=ae x)(hs:s.heap.objs.size<=h'.objs.size)(ho:h'.get? a=ae ⟨.type "tuple",ai,.seq (bT vs) n,#[]⟩)(q:Q (.tup ps) H):
 bn X β s.heap Q (.ref a) {s with heap:=h',toks:=tk}:=
 have g:Go bO β β s.heap h':=Go.of_keep hk hs
 ⟨_,β,H,r.grow hk hs,MD ho (r.mE ha) (bf.go g _ _ hv),g,q⟩
theorem gP:aI<=sizeLine:=by refine aa (lC ..) ?_;decide
noncomputable def DY:Option aF->Option (List PV)
 |some (.list ps)=>ae ps
 |_=>ai
noncomputable def listOf(H:HP):PV->Option (List PV)
 |.lst ps=>ae ps
 |.ak l=>DY (H.get l)
 |_=>ai
theorem acM{ps:List PV}(e:DY o=ae ps):o=ae (.list ps):=by
 cases o with
 |none=>exact ns e
 |some po=>cases po<;>first|exact ns e|exact congrArg (λz=>ae (aF.list z)) (so e)
theorem DW{ps:List PV}(q:H.get l=ae (.list ps)):listOf H (.ak l)=ae ps:=congrArg DY q
inductive LstAt(β:bz)(h:Heap)(ps:List PV)(v:Value):Prop
 |mk (a:aL) (vs:List Value) (n:Nat) (e:v=.ref a) (ho:h.get? a=ae ⟨.type "list",ai,.seq (bT vs) n,#[]⟩) (r:bf β h ps vs)
theorem iH{X:Fx}{p:PV}{ps:List PV}(r:aW X β H s)(hv:aN β s.heap p v)(e:listOf H p=ae ps):
 LstAt β s.heap ps v:=by
 cases p with
 |lst qs=>
  rcases hv with⟨a,vs,n,e1,e2,_,e3⟩
  obtain rfl:=(so e).symm;exact⟨a,vs,n,e1,e2,e3⟩
 |ak l=>
  refine cb hv ?_;clear hv;intro a e1 e2 aj;rcases(r.obj l _ (acM e))with⟨a',o,e3,e4,vs,n,e5,e6,_⟩
  obtain rfl:=so (e2.symm.trans e3);exact⟨a,vs,n,e1,e5▸e4,e6⟩
 |_=>exact ns e
theorem im{a:aL}{n:Nat}(e:h.get? a=ae ⟨.type "list",ai,.seq (bT vs) n,#[]⟩):h.IsList a (bT vs):=⟨_,e,rfl,n,rfl⟩
theorem tD{a:aL}{n:Nat}(e:h.get? a=ae ⟨.type "tuple",ai,.seq (bT vs) n,#[]⟩):IsTup h a (bT vs):=⟨_,e,rfl,n,rfl⟩
theorem zA{a:aL}{n:Nat}(e:h.get? a=ae ⟨.type "tuple",ai,.seq (bT vs) n,#[]⟩):h.IsTuple a (bT vs):=⟨_,e,rfl,n,rfl⟩
def ok{α:Type}(o:Option α)(f:α->Prop):Prop:=match o with
 |some a=>f a
 |none=>False
@[simp] theorem aw{α:Type}(a:α)(f:α->Prop):ok (ae a) f=f a:=rfl
def binI(op:oV)(a b:Int)(k:Int->Prop):Prop:=match op with
 |.Add=>k (a+b)
 |.Sub=>k (a - b)
 |.Mult=>(a.natAbs<2^60/\b.natAbs<2^60)/\k (a*b)
 |.FloorDiv=>(b≠0/\b.natAbs<1000000000)/\k (a.fdiv b)
 |.Mod=>b≠0/\k (a.fmod b)
 |.RShift=>0<=b/\k (a.fdiv (2^b.toNat))
 |.LShift=>(0<=b/\b<=1000/\a.natAbs<2^64)/\k (a*2^b.toNat)
 |.BitAnd=>k (Builtin.bitAnd a b)
 |.BitOr=>k (Gi a b)
 |_=>False
def iY(op:oV)(aY:Option dn)(p q:PV)(H:HP)(Q:PV->HP->Prop):Prop:=match p,q with
 |.int a,.int b=>binI op a b λc=>Q (.int c) H
 |.tup xs,.tup ys=>op=.Add/\xs.length+ys.length<=aI/\Q (.tup (xs++ys)) H
 |.str x,.str y=>op=.Add/\x.length+y.length<=aI/\Q (.str (x++y)) H
 |p,q=>op=.Add/\ok (listOf H p) λxs=>ok (listOf H q) λys=>eb aY (xs++ys) H Q
set_option tactic.hygienic true in
theorem ac3{a b:Int}(h:a.natAbs<2^60/\b.natAbs<2^60):IntMulOk a b:=.of_left (by
 unfold Builtin.Int.intBits;split
 ·omega
 ·rename_i h0
  have:a.natAbs≠0:=by intro e;exact h0 (by simpa using Int.natAbs_eq_zero.mp e)
  exact Qp ((F3 this).mpr h.1))
theorem WC{X:Fx}{A:bG}{op:oV}{a b:Int}{t u:iw}{Q:Value->aV->Prop}(h:binI op a b λc=>∀tk,Q (.int c s.toks) {s with toks:=tk}):
 Wp X A (uA op (.int a t) (.int b u)) Q s:=by
 cases op
 case Add=>exact PyProof.Rows.add_int (h _)
 case Sub=>exact PyProof.Rows.sub_int (h _)
 case Mult=>exact PyProof.Rows.mul_int (h.2 _) (ac3 h.1)
 case Mod=>exact PyProof.Rows.mod_int h.1 (h.2 _)
 case LShift=>
  refine aK (h:(0<=b/\b<=1000/\a.natAbs<2^64)/\∀tk,Q (.int (a*2^b.toNat) s.toks) {s with toks:=tk}) ?_;intro aj h;refine eB aj ?_;clear aj;intro h0 h1 h2;exact PyProof.Rows.lshift_int_small h0 (by omega) h2 (h _)
 case RShift=>exact PyProof.Rows.rshift_int h.1 (h.2 _)
 case BitOr=>exact PyProof.Rows.or_int (h _)
 case BitAnd=>exact PyProof.Rows.and_int (h _)
 case FloorDiv=>
  refine aK (h:(b≠0/\b.natAbs<1000000000)/\∀tk,Q (.int (a.fdiv b) s.toks) {s with toks:=tk}) ?_;intro aj h;refine aK aj ?_;clear aj;intro h0 h1;exact PyProof.Rows.floordiv_int (hp:=.inl (PyProof.noPylong_small (by omega))) h0 (h _)
 all_goals exact h.elim
theorem WA{op:oV}{a b:Int}{k k':Int->Prop}(h:binI op a b k)(i:∀c,k c->k' c):binI op a b k':=by
 cases op<;>first|exact i _ h|exact⟨h.1,i _ h.2⟩|exact h
theorem WH{X:Fx}{A:bG}{ys:List PV}{w:Value}(r:aW X β H s)(x:aN β s.heap (.tup xs) v)(y:aN β s.heap (.tup ys) w)
 (hz:xs.length+ys.length<=aI)(q:Q (.tup (xs++ys)) H):Wp X A (uA .Add v w) (bn X β s.heap Q) s:=by
 have x':=x;have y':=y;rcases x with⟨a,vs,n,rfl,ho,nl,rv⟩
 rcases y with⟨b,ws,m,rfl,hp,ml,rw⟩
 have hT:s.TypeIs (.ref a) "tuple":=⟨_,ho,rfl⟩
 have C5:s.TypeIs (.ref b) "tuple":=⟨_,hp,rfl⟩
 by_cases h1:(bT vs).isEmpty=ag
 ·refine Be hT C5 GJ GM Gr Gm (Gl _ _) (AutoSeq1.tuple___add___tuple_tuple_0 a (bT vs) n b (bT ws) m h1) ⟨ho,hp,?_⟩
  have:xs=[]:=by
   have e:vs=[]:=by simpa using h1
   have:=rv.length;rw[e]at this;exact mO.mp this.symm
  subst this;exact bn.same (p:=.tup ys) r y' (by exact q)
 ·by_cases h2:(bT ws).isEmpty=ag
  ·refine Be hT C5 GJ GM Gr Gm (Gl _ _) (AutoSeq1.tuple___add___tuple_tuple_1 a (bT vs) n b (bT ws) m h1 h2) ⟨ho,hp,?_⟩
   have:ys=[]:=by
    have e:ws=[]:=by simpa using h2
    have:=rw.length;rw[e]at this;exact mO.mp this.symm
   subst this;exact bn.same (p:=.tup xs) r x' (by simpa using q)
  ·refine Be hT C5 GJ GM Gr Gm (Gl _ _) (AutoSeq1.tuple___add___tuple_tuple_2 a (bT vs) n b (bT ws) m h1 h2 (by
    have:=rv.length;have:=rw.length;have:=gP;simp only[fu];exact QD hz (by assumption) (by assumption) this)) ⟨ho,hp,?_⟩
   have e:bT vs++bT ws=bT (vs++ws):=by simp
   refine aa (e ..) ?_;exact bn.EH (h':=s.heap.push _) r (rv.append rw) (bj _) (λb x q=>cv _ q) (by rewrite[dI];exact gQ) (dw _ rfl) q
theorem WD{X:Fx}{A:bG}{p:PV}{ys:List PV}{w:Value}(r:aW X β H s)(x:aN β s.heap p v)(y:aN β s.heap q w)
 (e1:listOf H p=ae xs)(e2:listOf H q=ae ys)(k:eb aY (xs++ys) H Q):Wp X A (uA .Add v w) (bn X β s.heap Q) s:=by
 rcases(iH r x e1)with⟨a,vs,n,rfl,ho,rv⟩
 rcases(iH r y e2)with⟨b,ws,m,rfl,hp,rw⟩
 refine Be ⟨_,ho,rfl⟩ ⟨_,hp,rfl⟩ noFill_list_add seq_list_add F.slot_list_add F.entry_list_add (F.args_list_add_2 _ _) (AutoSeq1.list___add___list_list_0 a (bT vs) n b (bT ws) m (by
  have:=rv.length;have:=rw.length;have:=gP;have:=k.1;simp only[fu];simp only[bS]at this;exact QP (by assumption) (by assumption) (by assumption) this)) ⟨ho,hp,?_⟩
 have e:bT vs++bT ws=bT (vs++ws):=by simp
 refine aa (e ..) ?_;exact bn.pW (h':=s.heap.push _) r (rv.append rw) (bj _) (λb x q=>cv _ q) (by rewrite[dI];exact gQ) (dw _ rfl) k
inductive PZ{α:Type}(o:Option α)(f:α->Prop):Prop
 |mk (a:α) (e:o=ae a) (h:f a)
theorem cX{α:Type}{o:Option α}{f:α->Prop}(h:ok o f):PZ o f:=by
 cases o with
 |none=>exact h.elim
 |some a=>exact⟨a,rfl,h⟩
theorem WE{X:Fx}{A:bG}{op:oV}{p:PV}{w:Value}(r:aW X β H s)(x:aN β s.heap p v)(y:aN β s.heap q w)
 (k:iY op aY p q H Q):Wp X A (uA op v w) (bn X β s.heap Q) s:=by
 have dflt:(op=.Add/\ok (listOf H p) λxs=>ok (listOf H q) λys=>eb aY (xs++ys) H Q)->Wp X A (uA op v w) (bn X β s.heap Q) s:=by
  (intro aj;refine aK aj ?_;clear aj;rintro rfl k0)
  rcases(cX k0)with⟨xs,e1,k1⟩
  rcases(cX k1)with⟨ys,e2,k2⟩
  exact WD r x y e1 e2 k2
 cases p with
 |int a=>cases q with
  |int b=>
   refine aM x ?_;clear x;rintro t rfl;refine aM y ?_;clear y;rintro u rfl;exact WC (WA (k:=λc=>Q (.int c) H) k λc hc tk=>bn.tok r oA hc)
  |_=>exact dflt k
 |tup xs=>cases q with
  |tup ys=>
   refine aK k ?_;clear k;rintro rfl aB;refine aK aB ?_;clear aB;intro hz k;exact WH r x y hz k
  |_=>exact dflt k
 |str a=>cases q with
  |str b=>
   refine aK k ?_;clear k;rintro rfl aB;refine aK aB ?_;clear aB;intro hz k;refine aM x ?_;clear x;rintro t rfl;refine aM y ?_;clear y;rintro u rfl;exact PyProof.Rows.add_str (λt' tk=>bn.tok r rV k) (by have:=gP;exact QW hz this)
  |_=>exact dflt k
 |_=>exact dflt k
section
variable{K:Type}[DecidableEq K]{V:Type}
noncomputable def bc(xs:List (K×V))(k:K):Option V:=(xs.find? λx=>x.1=k).map (·.2)
noncomputable def dput(xs:List (K×V))(k:K)(v:V):List (K×V):=if xs.any (λx=>x.1=k)then xs.map (λx=>if x.1=k then(x.1,v)else x)else xs++[(k,v)]
noncomputable def fg(xs:List (K×V))(k:K):List (K×V):=xs.filter λx=>decide (x.1≠k)
theorem dY.keys{xs:List (K×PV)}:∀{ys:List (K×Value)},dY β h xs ys->ys.map (·.1)=xs.map (·.1):=by
 induction xs with
 |nil=>intro ys e;refine aa ((show ys=[]from e) ..) ?_;rfl
 |cons a xs ih=>intro ys e;rcases e with⟨v,d7,e,x,r⟩;refine aa (e ..) ?_;exact congrArg (a.1:: ·) (ih r)
theorem dY.length{xs:List (K×PV)}{ys:List (K×Value)}(e:dY β h xs ys):ys.length=xs.length:=by
 have:=congrArg sm e.keys;simpa using this
theorem dY.get(k:K){xs:List (K×PV)}:∀{ys:List (K×Value)},dY β h xs ys->
 (bc xs k=ai/\xH ys k=ai)\/∃p v,bc xs k=ae p/\xH ys k=ae v/\aN β h p v:=by
 induction xs with
 |nil=>intro ys e;refine aa ((show ys=[]from e) ..) ?_;exact .inl ⟨rfl,rfl⟩
 |cons a xs ih=>
  intro ys e;rcases e with⟨v,d7,e,x,r⟩
  refine aa (e ..) ?_;by_cases hk:a.1=k
  ·exact .inr ⟨a.2,v,te hk,te hk,x⟩
  ·(refine aa ((show bc (a::xs) k=bc xs k from tf hk) ..) ?_;refine aa ((show xH ((a.1,v)::d7) k=xH d7 k from tf hk) ..) ?_)
   exact ih r
theorem dY.any(k:K){xs:List (K×PV)}:∀{ys:List (K×Value)},dY β h xs ys->(ys.any λx=>decide (x.1=k))=xs.any λx=>decide (x.1=k):=by
 induction xs with
 |nil=>intro ys e;refine aa ((show ys=[]from e) ..) ?_;rfl
 |cons a xs ih=>intro ys e;rcases e with⟨v,d7,e,x,r⟩;refine aa (e ..) ?_;exact congrArg (decide (a.1=k)|| ·) (ih r)
theorem dY.put{k:K}{p:PV}(x:aN β h p v){xs:List (K×PV)}{ys:List (K×Value)}(e:dY β h xs ys):dY β h (dput xs k p) (stored ys k v):=by
 have m:∀{xs:List (K×PV)} {ys:List (K×Value)},dY β h xs ys->dY β h (xs.map λx=>if x.1=k then(x.1,p)else x) (ys.map λx=>if x.1=k then(x.1,v)else x):=by
  intro xs;induction xs with
  |nil=>intro ys e;refine aa ((show ys=[]from e) ..) ?_;exact rfl
  |cons a r ih=>
   intro ys e;rcases e with⟨v',d7,e,y,r'⟩
   refine aa (e ..) ?_;refine aa (bB ..) ?_;refine aa (bB ..) ?_;by_cases hk:a.1=k
   ·(refine aa (if_pos hk ..) ?_;refine aa (if_pos hk ..) ?_);exact⟨v,_,rfl,x,ih r'⟩
   ·(refine aa (if_neg hk ..) ?_;refine aa (if_neg hk ..) ?_);exact⟨v',_,rfl,y,ih r'⟩
 have a:∀{xs:List (K×PV)} {ys:List (K×Value)},dY β h xs ys->dY β h (xs++[(k,p)]) (ys++[(k,v)]):=by
  intro xs;induction xs with
  |nil=>intro ys e;refine aa ((show ys=[]from e) ..) ?_;exact⟨v,[],rfl,x,rfl⟩
  |cons a r ih=>
   intro ys e;rcases e with⟨v',d7,e,y,r'⟩
   refine aa (e ..) ?_;exact⟨v',_,rfl,y,ih r'⟩
 unfold dput stored;refine aa (e.any k ..) ?_;split
 ·exact m e
 ·exact a e
theorem dY.del{k:K}{xs:List (K×PV)}:∀{ys:List (K×Value)},dY β h xs ys->dY β h (fg xs k) (xI ys k):=by
 induction xs with
 |nil=>intro ys e;refine aa ((show ys=[]from e) ..) ?_;exact rfl
 |cons a xs ih=>
  intro ys e;rcases e with⟨v,d7,e,x,r⟩
  refine aa (e ..) ?_;by_cases hk:a.1=k
  ·(refine aa ((show fg (a::xs) k=fg xs k from Jt hk) ..) ?_;refine aa ((show xI ((a.1,v)::d7) k=xI d7 k from Jt hk) ..) ?_)
   exact ih r
  ·(refine aa ((show fg (a::xs) k=a::fg xs k from Ju hk) ..) ?_;refine aa ((show xI ((a.1,v)::d7) k=(a.1,v)::xI d7 k from Ju hk) ..) ?_)
   exact⟨v,_,rfl,x,ih r⟩
theorem n6(xs:List (K×V))(k:K)(v:V):(dput xs k v).length<=xs.length+1:=by
 unfold dput;split<;>simp
end
noncomputable def fO:PV->Option Atom
 |.int n=>ae (.i n)
 |.str x=>ae (.x x)
 |_=>ai
noncomputable def yF:Option Atom->Option (List Atom)->Option (List Atom)
 |some k,ae ks=>ae (k::ks)
 |_,_=>ai
theorem Xk{a:Option Atom}{b:Option (List Atom)}(e:yF a b=ae ks){P:Prop}(f:∀k r,a=ae k->b=ae r->ks=k::r->P):P:=by
 cases a with
 |none=>exact ns e
 |some k=>cases b with
  |none=>exact ns e
  |some r=>exact f k r rfl rfl (so e).symm
noncomputable def sV:List PV->Option (List Atom)
 |[]=>ae []
 |p::ps=>yF (fO p) (sV ps)
noncomputable def keyOf:PV->Option (List Atom)
 |.tup ps=>sV ps
 |_=>ai
theorem rh{p:PV}{k:Atom}(e:fO p=ae k):p=k.pv:=by
 cases p<;>first|exact ns e|exact(so e)▸rfl
theorem V5:∀{ps:List PV} {ks:List Atom},sV ps=ae ks->ps=ks.map Atom.pv:=by
 intro ps;induction ps with
 |nil=>
  intro _ e
  obtain rfl:=so e;rfl
 |cons p ps ih=>
  intro ks e;refine Xk e λk r h1 h2 h3=>?_;refine aa (h3 ..) ?_;refine aa (bB ..) ?_;refine aQ (rh h1 ..) ?_;refine aQ (ih h2 ..) ?_;rfl
theorem zG{p:PV}(e:keyOf p=ae ks):p=.tup (ks.map Atom.pv):=by
 cases p with
 |tup=>(refine aa (V5 e ..) ?_;rfl)
 |_=>exact nomatch e
theorem abL{X:Fx}:∀{ks:List Atom} {vs:List Value},bf β h (ks.map Atom.pv) vs->AZ (fv X.prog X.w) ks vs:=by
 intro ks;induction ks with
 |nil=>
  intro _ e;refine aa ((show _=([]:List Value)from e) ..) ?_;exact .nil
 |cons k ks ih=>
  intro _ dW;rcases dW with⟨v,cp,e,x,r⟩
  refine aa (e ..) ?_;exact .cons (n0 x) (ih r)
theorem rG{X:Fx}{a:aL}(x:aN β h (.tup (ks.map Atom.pv)) (.ref a)):gw (fv X.prog X.w) h ks a:=by
 rcases x with⟨b,vs,n,e,ho,_,r⟩
 obtain rfl:=oZ e;exact⟨_,_,n,ho,rfl,rfl,abL r⟩
theorem fM.zd{X:Fx}:∀{xs:List (List Atom×PV)} {ys:List (List Atom×aL×Value)},fM X β h xs ys->∀y∈ys,gw (fv X.prog X.w) h y.1 y.2.1:=by
 intro xs;induction xs with
 |nil=>
  intro _ e y m;rw[show _=[]from e]at m;cases m
 |cons dP xs ih=>
  rcases dP with⟨k,p⟩
  intro _ dW y m;rcases dW with⟨a,v,d7,e,x,t,r⟩
  rw[e]at m;rcases cH.mp m with rfl|m
  ·exact rG t
  ·exact ih r y m
inductive PK(X:Fx)(β:bz)(h:Heap)(l:cr)(xs:List (Atom×PV))(v:Value):Prop
 |mk (a:aL) (ys:List (Atom×Value)) (e:v=.ref a) (hb:β l=ae a) (hd:h.DictOf (fv X.prog X.w) a ys) (he:dY β h xs ys) (z:xs.length<=aI)
theorem rn{X:Fx}{xs:List (Atom×PV)}(r:aW X β H s)(hv:aN β s.heap (.ak l) v)(e:H.get l=ae (.aH xs)):
 PK X β s.heap l xs v:=by
 refine cb hv ?_;clear hv;intro a e1 e2 aj;rcases(r.obj l _ e)with⟨a',o,e3,e4,ys,e5,e6,e7⟩
 rw[e2]at e3;obtain rfl:=so e3;exact⟨a,ys,e1,e2,qL.mpr ⟨o,e4,e5⟩,e6,e7⟩
inductive PL(X:Fx)(β:bz)(h:Heap)(l:cr)(xs:List (List Atom×PV))(v:Value):Prop
 |mk (a:aL) (ys:List (List Atom×aL×Value)) (e:v=.ref a) (hb:β l=ae a) (hd:h.DictOfH (pi (fv X.prog X.w)) a ys) (he:fM X β h xs ys) (z:xs.length<=aI)
theorem u9{X:Fx}{xs:List (List Atom×PV)}(r:aW X β H s)(hv:aN β s.heap (.ak l) v)(e:H.get l=ae (.bL xs)):
 PL X β s.heap l xs v:=by
 refine cb hv ?_;clear hv;intro a e1 e2 aj;rcases(r.obj l _ e)with⟨a',o,e3,e4,es,n,ys,e5,e6,e7,e8,e9⟩
 rw[e2]at e3;obtain rfl:=so e3;exact⟨a,ys,e1,e2,⟨o,es,n,e4,by refine aa (e5 ..) ?_;exact⟨rfl,rfl,rfl⟩,by(refine aa (e5 ..) ?_;rfl),e6,e8.zd,e7⟩,e8,e9⟩
end
section
noncomputable def isNone:PV->Bool
 |.none=>ag
 |_=>aq
def inR(p q:PV)(H:HP)(k:Bool->Prop):Prop:=match q with
 |.tup xs=>(∀x∈xs,x.jc p)/\k (xs.any λx=>x.eqv p)
 |.lst xs=>(∀x∈xs,x.jc p)/\k (xs.any λx=>x.eqv p)
 |.str x=>match p with
  |.str y=>k (!(AV x y 0 x.length 1).isEmpty)
  |_=>False
 |.ak l=>match H.get l with
  |some (.aH xs)=>ok (fO p) λa=>k (bc xs a).isSome
  |some (.bL xs)=>ok (keyOf p) λa=>k (bc xs a).isSome
  |_=>False
 |_=>False
def cK(op:lA)(p q:PV)(H:HP)(k:Bool->Prop):Prop:=match op with
 |.Eq=>p.jc q/\k (p.eqv q)
 |.NotEq=>p.jc q/\k (!p.eqv q)
 |.Lt=>match p,q with|.int a,.int b=>k (decide (a<b))|_,_=>False
 |.LtE=>match p,q with|.int a,.int b=>k (decide (a<=b))|_,_=>False
 |.Gt=>match p,q with|.int a,.int b=>k (decide (b<a))|_,_=>False
 |.GtE=>match p,q with|.int a,.int b=>k (decide (b<=a))|_,_=>False
 |.Is=>match q with|.none=>k (isNone p)|_=>False
 |.IsNot=>match q with|.none=>k (!isNone p)|_=>False
 |.In=>inR p q H k
 |.NotIn=>inR p q H λb=>k (!b)
theorem mG{α:Type}{o:Option α}{f g:α->Prop}(h:ok o f)(i:∀a,f a->g a):ok o g:=by
 cases o with
 |none=>exact h
 |some a=>exact i a h
def wy(o:Option aF)(f:List (Atom×PV)->Prop)(g:List (List Atom×PV)->Prop):Prop:=match o with
 |some (.aH xs)=>f xs
 |some (.bL xs)=>g xs
 |_=>False
theorem adG{f:List (Atom×PV)->Prop}{g:List (List Atom×PV)->Prop}(h:wy o f g):(∃xs,o=ae (.aH xs)/\f xs)\/∃xs,o=ae (.bL xs)/\g xs:=by
 cases o with
 |none=>exact h.elim
 |some o=>cases o with
  |aH xs=>exact .inl ⟨xs,rfl,h⟩
  |bL xs=>exact .inr ⟨xs,rfl,h⟩
  |_=>exact h.elim
theorem adH{f f':List (Atom×PV)->Prop}{g g':List (List Atom×PV)->Prop}(h:wy o f g)(i:∀xs,f xs->f' xs)(j:∀xs,g xs->g' xs):wy o f' g':=by
 cases o with
 |none=>exact h
 |some o=>cases o with
  |aH xs=>exact i xs h
  |bL xs=>exact j xs h
  |_=>exact h
theorem vX{p:PV}{k k':Bool->Prop}(h:inR p q H k)(i:∀b,k b->k' b):inR p q H k':=by
 cases q with
 |tup|lst=>exact⟨h.1,i _ h.2⟩
 |str=>cases p with
  |str=>exact i _ h
  |_=>exact h
 |ak l=>exact adH (o:=H.get l) h (λxs h=>mG h λU=>i _) (λxs h=>mG h λU=>i _)
 |_=>exact h
def EV(p q:PV)(f:Int->Int->Prop):Prop:=match p,q with
 |.int a,.int b=>f a b
 |_,_=>False
theorem wz{p:PV}{f:Int->Int->Prop}(h:EV p q f):∃a b,p=.int a/\q=.int b/\f a b:=by
 cases p with
 |int a=>cases q with
  |int b=>exact⟨a,b,rfl,rfl,h⟩
  |_=>exact h.elim
 |_=>exact h.elim
theorem z5{p:PV}{f g:Int->Int->Prop}(h:EV p q f)(i:∀a b,f a b->g a b):EV p q g:=by
 refine cZ (wz h) ?_;rintro a b rfl aB;refine aK aB ?_;clear aB;rintro rfl h;exact i a b h
theorem u4{op:lA}{p:PV}{k k':Bool->Prop}(h:cK op p q H k)(i:∀b,k b->k' b):cK op p q H k':=by
 cases op with
 |Eq|NotEq=>exact⟨h.1,i _ h.2⟩
 |In=>exact vX h i
 |NotIn=>exact vX (k:=λb=>k (!b)) h λb=>i _
 |Is|IsNot=>cases q with
  |none=>exact i _ h
  |_=>exact h
 |Lt=>exact z5 (f:=λa b=>k (decide (a<b))) h λU U=>i _
 |LtE=>exact z5 (f:=λa b=>k (decide (a<=b))) h λU U=>i _
 |Gt=>exact z5 (f:=λa b=>k (decide (b<a))) h λU U=>i _
 |GtE=>exact z5 (f:=λa b=>k (decide (b<=a))) h λU U=>i _
theorem qg{X:Fx}{a:aL}(hs:3<=X.base.objs.size)(r:aW X β H s)(e:β l=ae a):(a==sysModules)=aq:=by
 have:=r.off l a e;have h1:a≠1:=by intro z;subst z;exact Q0 hs this
 simpa[sysModules]using h1
theorem jq{a b:Value}{P:Prop}(h:a=b)(k:(a.ctorIdx==b.ctorIdx)=aq):P:=by
 rw[h,beq_self_eq_true]at k;exact ft k
mutual
theorem aN.uniq:∀(p q:PV) (v:Value),aN β h p v->aN β h q v->p.plain=ag->q.plain=ag->p=q
 |.tup ps,q,v,⟨a,vs,n,e,ho,_,r⟩,y,hp,hq=>by
  cases q with
  |tup qs=>
   rcases y with⟨b,ws,m,e',dZ,_,r'⟩
   cases e.symm.trans e'
   injection ho.symm.trans dZ with z;injection z with _ _ z;injection z with z;injection z with z;subst z;refine aa (bf.uniq ps qs vs r r' hp hq ..) ?_;rfl
  |lst qs=>
   rcases y with⟨b,ws,m,e',dZ,_,r'⟩
   cases e.symm.trans e'
   injection ho.symm.trans dZ with z;injection z with z;injection z with z;exact absurd z (by decide+kernel)
  |none|bool=>exact jq (e.symm.trans y) rfl
  |int|str=>exact jq (e.symm.trans y.choose_spec) rfl
  |_=>exact ff hq
 |.lst ps,q,v,⟨a,vs,n,e,ho,_,r⟩,y,hp,hq=>by
  cases q with
  |lst qs=>
   rcases y with⟨b,ws,m,e',dZ,_,r'⟩
   cases e.symm.trans e'
   injection ho.symm.trans dZ with z;injection z with _ _ z;injection z with z;injection z with z;subst z;refine aa (bf.uniq ps qs vs r r' hp hq ..) ?_;rfl
  |tup qs=>
   rcases y with⟨b,ws,m,e',dZ,_,r'⟩
   cases e.symm.trans e'
   injection ho.symm.trans dZ with z;injection z with z;injection z with z;exact absurd z (by decide+kernel)
  |none|bool=>exact jq (e.symm.trans y) rfl
  |int|str=>exact jq (e.symm.trans y.choose_spec) rfl
  |_=>exact ff hq
 |.none,q,v,x,y,_,hq=>by
  cases q with
  |none=>rfl
  |bool=>exact jq (x.symm.trans y) rfl
  |int|str=>exact jq (x.symm.trans y.choose_spec) rfl
  |tup|lst=>rcases y with⟨_,_,_,e',_⟩;exact jq (x.symm.trans e') rfl
  |_=>exact ff hq
 |.bool b,q,v,x,y,_,hq=>by
  cases q with
  |bool=>injection x.symm.trans y with z;(refine aa (z ..) ?_;rfl)
  |none=>exact jq (x.symm.trans y) rfl
  |int|str=>exact jq (x.symm.trans y.choose_spec) rfl
  |tup|lst=>rcases y with⟨_,_,_,e',_⟩;exact jq (x.symm.trans e') rfl
  |_=>exact ff hq
 |.int i,q,v,⟨t,x⟩,y,_,hq=>by
  cases q with
  |int=>injection x.symm.trans y.choose_spec with z;(refine aa (z ..) ?_;rfl)
  |none|bool=>exact jq (x.symm.trans y) rfl
  |str=>exact jq (x.symm.trans y.choose_spec) rfl
  |tup|lst=>rcases y with⟨_,_,_,e',_⟩;exact jq (x.symm.trans e') rfl
  |_=>exact ff hq
 |.str i,q,v,⟨t,x⟩,y,_,hq=>by
  cases q with
  |str=>injection x.symm.trans y.choose_spec with z;(refine aa (z ..) ?_;rfl)
  |none|bool=>exact jq (x.symm.trans y) rfl
  |int=>exact jq (x.symm.trans y.choose_spec) rfl
  |tup|lst=>rcases y with⟨_,_,_,e',_⟩;exact jq (x.symm.trans e') rfl
  |_=>exact ff hq
 |.eh _,_,_,_,_,hp,_=>ff hp
 |.ak _,_,_,_,_,hp,_=>ff hp
theorem bf.uniq:∀(ps qs:List PV) (vs:List Value),bf β h ps vs->bf β h qs vs->PV.p8 ps=ag->PV.p8 qs=ag->ps=qs
 |[],qs,vs,x,y,_,_=>by
  cases qs with
  |nil=>rfl
  |cons=>rcases y with⟨v,cp,e,_,_⟩;exact nomatch x.symm.trans e
 |p::ps,qs,vs,⟨v,cp,e,x,r⟩,y,hp,hq=>by
  cases qs with
  |nil=>exact nomatch y.symm.trans e
  |cons q qs=>
   rcases y with⟨w,aha,e',y,r'⟩
   injection e.symm.trans e' with z1 z2;subst z1 z2;refine aa (aN.uniq p q v x y (bl hp) (bl hq) ..) ?_;refine aa (bf.uniq ps qs cp r r' (br hp) (br hq) ..) ?_;rfl
end
theorem LV{n:Nat}{A:bG}{p:PV}(ra:cE n A)(x:aN β s.heap p v)(rv:bf β s.heap xs vs)(hc:∀x∈xs,x.jc p):
 ∃e:Value->Bool,(∀y,y∈bT vs->Gw A.in1 s y v (e y))/\(bT vs).any e=xs.any λx=>x.eqv p:=by
 classical
 refine⟨λy=>if h:∃q:PV,aN β s.heap q y/\q.plain=ag then h.choose.eqv p else aq,?_,?_⟩
 ·have:∀(xs:List PV) (vs:List Value),bf β s.heap xs vs->(∀x∈xs,x.jc p)->∀y∈vs,Gw A.in1 s y v (if h:∃q:PV,aN β s.heap q y/\q.plain=ag then h.choose.eqv p else aq):=by
   intro xs;induction xs with
   |nil=>intro vs rv _ y hy;rw[show vs=[]from rv]at hy;cases hy
   |cons q qs ih=>
    (intro _;intro aj;rcases aj with⟨w,ws,rfl,y,r⟩;intro hc;intro z;intro hz)
    rcases cH.mp hz with rfl|hz
    ·have hq:=hc q ca
     have hex:∃q:PV,aN β s.heap q z/\q.plain=ag:=⟨q,y,hq.1⟩
     refine aa (dif_pos hex ..) ?_;have:hex.choose=q:=aN.uniq _ _ _ hex.choose_spec.1 y hex.choose_spec.2 hq.1;refine aa (this ..) ?_;exact X7 (by have:=ra.units;show A.units+1+100<_;exact Q8 this) y x hq
    ·exact ih ws r (λx hx=>hc x (cI _ hx)) z hz
  intro y hy;exact this xs vs rv hc y (by simpa using hy)
 ·have:∀(xs:List PV) (vs:List Value),bf β s.heap xs vs->(∀x∈xs,x.jc p)->(vs.any λy=>if h:∃q:PV,aN β s.heap q y/\q.plain=ag then h.choose.eqv p else aq)=xs.any λx=>x.eqv p:=by
   intro xs;induction xs with
   |nil=>intro vs rv _;refine aa ((show vs=[]from rv) ..) ?_;rfl
   |cons q qs ih=>
    (intro _;intro aj;rcases aj with⟨w,ws,rfl,y,r⟩;intro hc)
    refine aa (oQ ..) ?_;refine aa (oQ ..) ?_;refine aa (ih ws r (λx hx=>hc x (cI _ hx)) ..) ?_
    have hq:=hc q ca;have hex:∃q:PV,aN β s.heap q w/\q.plain=ag:=⟨q,y,hq.1⟩
    refine aa (dif_pos hex ..) ?_;refine aa (((aN.uniq _ _ _ hex.choose_spec.1 y hex.choose_spec.2 hq.1)) ..) ?_;rfl
  refine aQ (this xs vs rv hc ..) ?_;simp
theorem yI{X:Fx}(k:List Atom):∀{xs:List (List Atom×PV)} {ys:List (List Atom×aL×Value)},fM X β h xs ys->(bc xs k=ai/\mW ys k=ai)\/∃p a v,bc xs k=ae p/\mW ys k=ae (a,v)/\aN β h p v:=by
 intro xs;induction xs with
 |nil=>
  intro _ e;refine aa (e ..) ?_;exact .inl ⟨rfl,rfl⟩
 |cons dP xs ih=>
  rcases dP with⟨k',p⟩
  intro _ dW;rcases dW with⟨a,v,d7,e,x,_,r⟩
  refine aa (e ..) ?_;by_cases hk:k'=k
  ·exact .inr ⟨p,a,v,te hk,te hk,x⟩
  ·(refine aa ((show bc ((k',p)::xs) k=bc xs k from tf hk) ..) ?_;refine aa ((show mW ((k',a,v)::d7) k=mW d7 k from tf hk) ..) ?_)
   exact ih r
theorem K5{X:Fx}{n:Nat}{A:bG}{p:PV}{w:Value}(hs:3<=X.base.objs.size)(ra:cE n A)(r:aW X β H s)(x:aN β s.heap p v)(y:aN β s.heap q w)
 (neg:Bool)(h:inR p q H λb=>∀tk,P (.bool (neg^^b)) {s with toks:=tk}):Wp X A (qQ (if neg then .NotIn else .In) v w) P s:=by
 replace h:inR p q H λb=>∀tk,P (.bool (cond neg (!b) b)) {s with toks:=tk}:=vX h λb z=>by cases neg<;>cases b<;>exact z
 cases q with
 |tup xs=>
  rcases y with⟨a,vs,n',rfl,ho,nl,rv⟩
  refine ay (LV ra x rv h.1) ?_;intro e h1 h2
  have h3:=h.2 s.toks;rw[<-h2]at h3;cases neg
  ·exact SeqAt.in_tupleAt e (zA ho) h1 (h3)
  ·exact SeqAt.notIn_tupleAt e (zA ho) h1 (h3)
 |lst xs=>
  rcases y with⟨a,vs,n',rfl,ho,nl,rv⟩
  refine ay (LV ra x rv h.1) ?_;intro e h1 h2
  have h3:=h.2 s.toks;rw[<-h2]at h3;cases neg
  ·exact SeqAt.in_listAt e (im ho) h1 (h3)
  ·exact SeqAt.notIn_listAt e (im ho) h1 (h3)
 |str=>cases p with
  |str=>
   refine aM x ?_;clear x;rintro t rfl;refine aM y ?_;clear y;rintro u rfl;cases neg
   ·exact PyProof.Rows.in_str (h s.toks)
   ·exact PyProof.Rows.notIn_str (h s.toks)
  |_=>exact h.elim
 |ak l=>
  rcases adG (o:=H.get l) h with⟨xs,e,h⟩|⟨xs,e,h⟩
  ·rcases(cX h)with⟨k,ek,h⟩
   rcases(rn r y e)with⟨d,ys,rfl,hb,hd,he,_⟩
   rw[rh ek]at x;have tu:(xH ys k).isSome=(bc xs k).isSome:=by
    rcases he.get k with⟨e1,e2⟩|⟨p,v,e1,e2,_⟩<;>(refine aa (e1 ..) ?_;refine aa (e2 ..) ?_)<;>rfl
   have h3:=h (s.toks+1);rw[<-tu]at h3;cases neg
   ·exact wpAny_in_of (knd:=fv X.prog X.w) (n0 x) (qg hs r hb) hd.mapOf (h3)
   ·exact wpAny_notIn_of (knd:=fv X.prog X.w) (n0 x) (qg hs r hb) hd.mapOf (h3)
  ·rcases(cX h)with⟨k,ek,h⟩
   rcases(u9 r y e)with⟨d,ys,rfl,hb,hd,he,_⟩
   rw[zG ek]at x;refine aM (let⟨a,_,_,e,_,_,_⟩:=x;⟨a,e⟩:∃a,v=.ref a) ?_;rintro ka rfl;have tu:(mW ys k).isSome=(bc xs k).isSome:=by
    rcases yI k he with⟨e1,e2⟩|⟨p,a,v,e1,e2,_⟩<;>(refine aa (e1 ..) ?_;refine aa (e2 ..) ?_)<;>rfl
   rw[<-tu]at h;cases neg
   ·exact wpAny_in_heap (knd:=pi (fv X.prog X.w)) ra.u1 (rG x) (qg hs r hb) hd (h _)
   ·refine(?_:Wp X A (do return .bool (!(<-contains (.ref d) (.ref ka)))) P s)
    have:=wpAny_in_heap (knd:=pi (fv X.prog X.w)) (A:=A) (E:=FF) (Q:=λv s'=>∀b,v=.bool b->P (.bool (!b)) s') ra.u1 (rG x) (qg hs r hb) hd (λb C7=>by
     obtain rfl:=agK C7;exact h _)
    refine ax ?_;intro Γ pp DF
    have h4:=this Γ pp DF;replace h4:eL.wp (bN X.prog X.w) Γ (contains (.ref d) (.ref ka)>>= λc=>pure (A5 c)) (λv U s'=>∀b,v=.bool b->P (.bool (!b)) s') (λU U U=>False) pp s:=h4;rw[eL.wp_bind']at h4;exact eL.wp_mono _ Γ _ (λb p' s' h5=>aP ((show∀b',A5 b=.bool b'->P (.bool (!b')) s' from h5) b rfl)) (λU U U h=>h) pp s h4
 |_=>exact h.elim
theorem yB{X:Fx}{n:Nat}{A:bG}{op:lA}{p:PV}{w:Value}(hs:3<=X.base.objs.size)(ra:cE n A)(r:aW X β H s)(x:aN β s.heap p v)(y:aN β s.heap q w)
 (h:cK op p q H λb=>∀tk,P (.bool b) {s with toks:=tk}):Wp X A (qQ op v w) P s:=by
 have adw:v=.none/\p=.none\/plainIs v jA=ag/\(v==jA)=isNone p:=by
  cases p with
  |none=>exact .inl ⟨x,rfl⟩
  |bool=>refine aa ((show v=_ from x) ..) ?_;exact .inr ⟨rfl,rfl⟩
  |int|str=>refine aa (x.choose_spec ..) ?_;exact .inr ⟨rfl,rfl⟩
  |ak=>refine aa (x.choose_spec.1 ..) ?_;exact .inr ⟨rfl,rfl⟩
  |tup|lst=>rcases x with⟨_,_,_,e,_⟩;refine aa (e ..) ?_;exact .inr ⟨rfl,rfl⟩
  |eh=>refine aa (x.choose_spec.choose_spec.choose_spec.choose_spec.1 ..) ?_;exact .inr ⟨rfl,rfl⟩
 have z4:plainIs v jA=ag/\(v==jA)=isNone p:=by
  rcases adw with⟨rfl,rfl⟩|h
  ·exact⟨rfl,rfl⟩
  ·exact h
 cases op with
 |Eq=>exact W5 ra x y h.1 (h.2 s.toks)
 |NotEq=>exact Xa ra x y h.1 (h.2 s.toks)
 |In=>exact K5 hs ra r x y aq (vX (k:=λb=>∀tk,P (.bool b) {s with toks:=tk}) h λb z=>by cases b<;>exact z)
 |NotIn=>exact K5 hs ra r x y ag (vX (k:=λb=>∀tk,P (.bool (!b)) {s with toks:=tk}) h λb z=>by cases b<;>exact z)
 |Is=>cases q with
  |none=>
   refine aa ((show w=.none from y) ..) ?_;exact wpAny_is_plain z4.1 (z4.2.symm▸h s.toks)
  |_=>exact h.elim
 |IsNot=>cases q with
  |none=>
   refine aa ((show w=.none from y) ..) ?_;exact wpAny_isNot_plain z4.1 (z4.2.symm▸h s.toks)
  |_=>exact h.elim
 |Lt=>
  refine cZ (wz (f:=λa b=>∀tk,P (.bool (decide (a<b))) {s with toks:=tk}) h) ?_;rintro a b rfl aB;refine aK aB ?_;clear aB;rintro rfl h
  (refine aM x ?_;clear x;rintro t rfl);(refine aM y ?_;clear y;rintro u rfl);exact OV (h s.toks)
 |LtE=>
  refine cZ (wz (f:=λa b=>∀tk,P (.bool (decide (a<=b))) {s with toks:=tk}) h) ?_;rintro a b rfl aB;refine aK aB ?_;clear aB;rintro rfl h
  (refine aM x ?_;clear x;rintro t rfl);(refine aM y ?_;clear y;rintro u rfl);exact PyProof.Rows.le_int (h s.toks)
 |Gt=>
  refine cZ (wz (f:=λa b=>∀tk,P (.bool (decide (b<a))) {s with toks:=tk}) h) ?_;rintro a b rfl aB;refine aK aB ?_;clear aB;rintro rfl h
  (refine aM x ?_;clear x;rintro t rfl);(refine aM y ?_;clear y;rintro u rfl);exact PyProof.Rows.gt_int (h s.toks)
 |GtE=>
  refine cZ (wz (f:=λa b=>∀tk,P (.bool (decide (b<=a))) {s with toks:=tk}) h) ?_;rintro a b rfl aB;refine aK aB ?_;clear aB;rintro rfl h
  (refine aM x ?_;clear x;rintro t rfl);(refine aM y ?_;clear y;rintro u rfl);exact PyProof.Rows.ge_int (h s.toks)
theorem MO{i:Int}{n:Nat}(h0:0<=i)(h:i.toNat<n):seqIndex? i n=ae i.toNat:=by
 unfold seqIndex?;have h1:¬i<0:=Rf h0;have h2:i<n:=Hn h;simp[h1,h0,h2]
def eV(p q:PV)(H:HP)(Q:PV->HP->Prop):Prop:=match p,q with
 |.tup xs,.int i=>(0<=i/\i<2^60)/\ok (xs[i.toNat]?) λr=>Q r H
 |.lst xs,.int i=>(0<=i/\i<2^60)/\ok (xs[i.toNat]?) λr=>Q r H
 |.str x,.int i=>(0<=i/\i<2^60)/\ok (x.cps[i.toNat]?) λc=>Q (.str ⟨#[c]⟩) H
 |.ak l,q=>match H.get l with
  |some (.list xs)=>match q with
   |.int i=>(0<=i/\i<2^60)/\ok (xs[i.toNat]?) λr=>Q r H
   |_=>False
  |some (.aH xs)=>ok (fO q) λk=>ok (bc xs k) λr=>Q r H
  |some (.bL xs)=>ok (keyOf q) λk=>ok (bc xs k) λr=>Q r H
  |_=>False
 |_,_=>False
theorem KF(slice:Expr)(o i:Value):∃ops,subscripted slice aq o i=xB ops (getItem o i):=by
 cases slice with
 |Slice a b c p=>cases c<;>exact⟨_,rfl⟩
 |_=>exact⟨_,rfl⟩
def ox(o:Option aF)(e:List PV->Prop)(f:List (Atom×PV)->Prop)(g:List (List Atom×PV)->Prop):Prop:=match o with
 |some (.list xs)=>e xs
 |some (.aH xs)=>f xs
 |some (.bL xs)=>g xs
 |_=>False
theorem Mg{e:List PV->Prop}{f:List (Atom×PV)->Prop}{g:List (List Atom×PV)->Prop}(h:ox o e f g):(∃xs,o=ae (.list xs)/\e xs)\/(∃xs,o=ae (.aH xs)/\f xs)\/∃xs,o=ae (.bL xs)/\g xs:=by
 cases o with
 |none=>exact h.elim
 |some o=>cases o with
  |list xs=>exact .inl ⟨xs,rfl,h⟩
  |aH xs=>exact .inr (.inl ⟨xs,rfl,h⟩)
  |bL xs=>exact .inr (.inr ⟨xs,rfl,h⟩)
  |_=>exact h.elim
theorem adI{e e':List PV->Prop}{f f':List (Atom×PV)->Prop}{g g':List (List Atom×PV)->Prop}(h:ox o e f g)(i:∀xs,e xs->e' xs)(j:∀xs,f xs->f' xs)(k:∀xs,g xs->g' xs):ox o e' f' g':=by
 cases o with
 |none=>exact h
 |some o=>cases o with
  |list xs=>exact i xs h
  |aH xs=>exact j xs h
  |bL xs=>exact k xs h
  |_=>exact h
def z6(q:PV)(f:Int->Prop):Prop:=match q with
 |.int i=>f i
 |_=>False
theorem uV{f:Int->Prop}(h:z6 q f):∃i,q=.int i/\f i:=by
 cases q with
 |int i=>exact⟨i,rfl,h⟩
 |_=>exact h.elim
theorem abp{X:Fx}{n:Nat}{A:bG}{p:PV}{w:Value}{value slice:Expr}(hs:3<=X.base.objs.size)(ra:cE n A)(r:aW X β H s)(x:aN β s.heap p v)(y:aN β s.heap q w)
 (h:eV p q H Q):Wp X A (subscriptTail value slice v w) (bn X β s.heap Q) s:=by
 refine aM (KF slice v w) ?_;intro ops gn;have lst:∀{a:aL} {vs:List Value} {m:Nat} {xs:List PV} {i:Int} {u:iw},s.heap.get? a=ae ⟨.type "list",ai,.seq (bT vs) m,#[]⟩->bf β s.heap xs vs->((0<=i/\i<2^60)/\ok (xs[i.toNat]?) λr=>Q r H)->v=.ref a->w=.int i u->Wp X A (subscriptTail value slice v w) (bn X β s.heap Q) s:=by
  (intro a;intro vs;intro m;intro xs;intro i;intro u;intro ho;intro rv;intro aj;refine aK aj ?_;clear aj;intro aB h;refine aK aB ?_;clear aB;intro h0 h1;rintro rfl;rintro rfl)
  rcases(cX h)with⟨z,ez,h⟩
  refine ay (rv.get ez) ?_;intro vz e1 e2;exact qH (im ho).typeIs Pu.lookup (wpAny_getItem_list (im ho) h0 (oP h1 (by decide)) (x:=vz) (by simpa using e1) (bn.same r e2 h)) gn
 cases p with
 |tup xs=>
  replace h:z6 q λi=>(0<=i/\i<2^60)/\ok (xs[i.toNat]?) λr=>Q r H:=by cases q<;>exact h
  refine ay (uV h) ?_;rintro i rfl aB;refine aK aB ?_;clear aB;intro aS h;refine aK aS ?_;clear aS;intro h0 h1;rcases(cX h)with⟨z,ez,h⟩
  rcases x with⟨a,vs,n',rfl,ho,nl,rv⟩
  refine aM y ?_;clear y;rintro u rfl;refine ay (rv.get ez) ?_;intro vz e1 e2;have bo:i.toNat<vs.length:=(bJ.mp e1).1;exact qH (tD ho).typeIs OW.lookup (getItem_tuple (tD ho) (j:=i.toNat) (x:=vz) (wW (by decide) h0) (oP h1 (by decide)) (by
   refine aa (fu ..) ?_;exact MO h0 bo) (by simpa using e1) (bn.same r e2 h)) gn
 |lst xs=>
  replace h:z6 q λi=>(0<=i/\i<2^60)/\ok (xs[i.toNat]?) λr=>Q r H:=by cases q<;>exact h
  refine ay (uV h) ?_;rintro i rfl h;rcases x with⟨a,vs,n',e,ho,nl,rv⟩
  refine aM y ?_;clear y;intro u e';exact lst ho rv h e e'
 |str xx=>
  replace h:z6 q λi=>(0<=i/\i<2^60)/\ok (xx.cps[i.toNat]?) λc=>Q (.str ⟨#[c]⟩) H:=by cases q<;>exact h
  refine ay (uV h) ?_;rintro i rfl aB;refine aK aB ?_;clear aB;intro aS h;refine aK aS ?_;clear aS;intro h0 h1;rcases(cX h)with⟨c,ez,h⟩
  refine aM x ?_;clear x;rintro t rfl;refine aM y ?_;clear y;rintro u rfl;have bo:i.toNat<xx.cps.size:=(ua.mp ez).1;exact qH (GO s xx t) slot_str_getitem.lookup (PyProof.Rows.getItem_str (c:=c) (by
   (rewrite[Bool.or_eq_false_iff];rewrite[decide_eq_false_iff_not];rewrite[decide_eq_false_iff_not])
   exact⟨FJ.mpr (wW (by decide) h0),FI.mpr (oP h1 (by decide))⟩) (by
   refine aa ((show seqIndex? i xx.length=ae i.toNat from MO h0 bo) ..) ?_;exact ez) (bn.tok r rV h)) gn
 |ak l=>
  rcases Mg (o:=H.get l) h with⟨xs,e,h⟩|⟨xs,e,h⟩|⟨xs,e,h⟩
  ·(refine ay (uV h) ?_;rintro i rfl h)
   rcases(iH (ps:=xs) r x (by show(match H.get l with|some (.list ps)=>ae ps|_=>ai)=ae xs;(refine aa (e ..) ?_;rfl)))with⟨a,vs,n',ev,ho,rv⟩
   refine aM y ?_;clear y;intro u e';exact lst ho rv h ev e'
  ·rcases(cX h)with⟨k,ek,h⟩
   rcases(cX h)with⟨z,ez,h⟩
   rcases(rn r x e)with⟨d,ys,rfl,hb,hd,he,_⟩
   rw[rh ek]at y;rcases he.get k with⟨e1,e2⟩|⟨p,vv,e1,e2,e3⟩
   ·exact nomatch e1.symm.trans ez
   ·cases e1.symm.trans ez
    exact qH hd.typeIs Pt.lookup (wpAny_getItem_of (knd:=fv X.prog X.w) (n0 y) hd.mapOf e2 (bn.tok r e3 h)) gn
  ·rcases(cX h)with⟨k,ek,h⟩
   rcases(cX h)with⟨z,ez,h⟩
   rcases(u9 r x e)with⟨d,ys,rfl,hb,hd,he,_⟩
   rw[zG ek]at y;refine aM (let⟨a,_,_,e,_,_,_⟩:=y;⟨a,e⟩:∃a,w=.ref a) ?_;rintro ka rfl;rcases yI k he with⟨e1,e2⟩|⟨p,a,vv,e1,e2,e3⟩
   ·exact nomatch e1.symm.trans ez
   ·cases e1.symm.trans ez
    exact qH hd.typeIs Pt.lookup (wpAny_getItem_heap (knd:=pi (fv X.prog X.w)) ra.u1 (rG y) hd e2 (bn.tok r e3 h)) gn
 |_=>exact h.elim
end
section
set_option genSizeOf false
set_option genSizeOfSpec false
set_option genInjectivity false
set_option genCtorIdx false
mutual
inductive Fn where
 |sd|mF|joined|jM|value|begun|p9|oo|rI|kP|uX|take|qb|op|kids
 |lp|make|qn|mH|qm|ql|qk|kQ|node|add|oq|find|merge|join|settle|classes|members|pY|qp
 |pV|draw|names|over|marks|bx|rR|rJ|added|rk|rH|mA
inductive BI where
 |len|sorted|tupleOf|listOf|range|dictOf|max|sum|intOf|strOf
inductive LM where
 |append|extend|pop|get|li|jI|isspace
end
set_option genCtorIdx true
noncomputable def Fn.ix(a:Fn):Nat:= @Fn.casesOn (λU=>Nat) a 0 1 2 3 4 5 6 7 8 9 10 11 12 13 14 15 16 17 18 19 20 21 22 23 24 25 26 27 28 29 30 31 32 33 34 35 36 37 38 39 40 41 42 43 44 45
noncomputable def Fn.gF:List Fn:=[.sd,.mF,.joined,.jM,.value,.begun,.p9,.oo,.rI,.kP,.uX,.take,.qb,.op,.kids,.lp,.make,.qn,.mH,.qm,.ql,.qk,.kQ,.node,.add,.oq,.find,.merge,.join,.settle,.classes,.members,.pY,.qp,.pV,.draw,.names,.over,.marks,.bx,.rR,.rJ,.added,.rk,.rH,.mA]
theorem Fn.kg(a:Fn):Fn.gF[a.ix]? =ae a:=by cases a<;>rfl
noncomputable instance:DecidableEq Fn:=λa b=>decidable_of_decidable_of_iff (p:=a.ix=b.ix) ⟨λh=>mQ ((a.kg.symm.trans (congrArg (λi=>Fn.gF[i]?) h)).trans b.kg),congrArg Fn.ix⟩
noncomputable def Fn.addr:Fn->aL
 |.sd=>26|.mF=>38|.joined=>43|.jM=>64|.value=>71|.begun=>78|.p9=>83|.oo=>88|.rI=>155
 |.kP=>169|.uX=>176|.take=>181|.qb=>188|.op=>216|.kids=>223
 |.lp=>277|.make=>284|.qn=>291|.mH=>298|.qm=>305|.ql=>312|.qk=>317
 |.kQ=>359|.node=>371|.add=>376|.oq=>390|.find=>397|.merge=>411|.join=>418|.settle=>425|.classes=>439|.members=>446
 |.pY=>451|.qp=>470
 |.pV=>484|.draw=>491|.names=>496|.over=>503|.marks=>508|.bx=>513|.rR=>520|.rJ=>525|.added=>532|.rk=>539|.rH=>544|.mA=>549
noncomputable def Fn.str:Fn->Str
 |.sd=>"whole_of"|.mF=>"of_node"|.joined=>"joined"|.jM=>"__init__"|.value=>"value"|.begun=>"begun"|.p9=>"reckoned"|.oo=>"settle"|.rI=>"is_op"
 |.kP=>"__init__"|.uX=>"size"|.take=>"take"|.qb=>"require"|.op=>"op"|.kids=>"kids"
 |.lp=>"__init__"|.make=>"make"|.qn=>"size"|.mH=>"find"|.qm=>"merge"|.ql=>"members"|.qk=>"classes"
 |.kQ=>"__init__"|.node=>"node"|.add=>"add"|.oq=>"look_at"|.find=>"find"|.merge=>"merge"|.join=>"join"|.settle=>"settle"|.classes=>"classes"|.members=>"members"
 |.pY=>"nodes_of"|.qp=>"users"
 |.pV=>"_law_leaves"|.draw=>"_law_draw"|.names=>"_law_names"|.over=>"_law_over"|.marks=>"_law_marks"|.bx=>"_law_lots"|.rR=>"_law_needed"|.rJ=>"_law_is_told"|.added=>"_law_added"
 |.rk=>"_law_deed"|.rH=>"_law_is_kept"|.mA=>"law"
noncomputable def Fn.cls:Fn->Option Cl
 |.mF|.joined=>ae .fG
 |.jM|.value|.begun|.p9|.oo=>ae .Keeper
 |.kP|.uX|.take|.qb|.op|.kids=>ae .jD
 |.lp|.make|.qn|.mH|.qm|.ql|.qk=>ae .j8
 |.kQ|.node|.add|.oq|.find|.merge|.join|.settle|.classes|.members|.pY|.qp=>ae .Heap
 |_=>ai
noncomputable def Cl.str:Cl->Str
 |.fG=>"FreeNames"|.Keeper=>"Keeper"|.jD=>"Bank"|.j8=>"Unions"|.Heap=>"Heap"
noncomputable def BI.str:BI->Str
 |.len=>"len"|.sorted=>"sorted"|.tupleOf=>"tuple"|.listOf=>"list"|.range=>"range"|.dictOf=>"dict"|.max=>"max"|.sum=>"sum"|.intOf=>"int"|.strOf=>"str"
noncomputable def BI.val:BI->Value
 |.len=> .builtin "len"|.sorted=> .builtin "sorted"|.tupleOf=> .type "tuple"|.listOf=> .type "list"|.range=> .type "range"|.dictOf=> .type "dict"|.max=> .builtin "max"|.sum=> .builtin "sum"
 |.intOf=> .type "int"|.strOf=> .type "str"
structure cj(X:Fx):Prop where
 K4:X.K.In X.base
 nolimit:X.base.NoLimit
 size:3<=X.base.objs.size
 glob:X.base.Ns nT X.mg
 blt:X.base.Ns A9 X.mb
 JO:∀f:Fn,f.cls=ai->X.mg f.str=ae (.ref f.addr)
 JG:∀C:Cl,X.mg C.str=ae (.ref C.addr)
 CR:∀b:BI,X.mg b.str=ai/\X.mb b.str=ae b.val
 JP:X.mg ("set":Str)=ai/\X.mb ("set":Str)=ae (.type "set")
 get:∀C:Cl,plainGet X.K C.addr ""=ag/\hasDictIn X.K C.addr=ag/\qN X.K (.ref C.addr) "__setattr__"=ae (ae (.builtin "object.__setattr__"))/\plainOver X.K C.addr=ag/\makesIn X.K C.addr=ag
 attr:∀(C:Cl) (a:At),qN X.K (.ref C.addr) a.str=ae ai/\takerIn X.K C.addr a.str=ae ai
 EK:∀(f:Fn) (C:Cl),f.cls=ae C->qN X.K (.ref C.addr) f.str=ae (ae (.ref f.addr))
 zB:∀f:Fn,isFn X.K (.ref f.addr)=ag/\keepIn X.K (.ref f.addr)=ag
 Lm:∀C:Cl,keepIn X.K (.ref C.addr)=ag
 L9:qN X.K (.ref Cl.fG.addr) "__init__"=ae (ae (.builtin "object.__init__"))
section
variable{X:Fx}{n:Nat}
theorem aW.K(O:cj X)(r:aW X β H s):X.K.In s.heap:=O.K4.keeps r.top
theorem yL{c:Const}{p:PV}(h:Q p H)(e:match c,p with|.none,.none=>True|.bool b,.bool b'=>b=b'|.int i,.int i'=>i=i'|.str x,.str x'=>x=x'|_,_=>False):
 bg X n env vm (.Constant c k pos) ρ H Q:=by
 intro A β s ra r rf;cases c with
 |none=>cases p with
  |none=>exact aP (bn.same r wC h)
  |_=>exact e.elim
 |bool=>cases p with
  |bool=>cases e;exact aP (bn.same r wB h)
  |_=>exact e.elim
 |int=>cases p with
  |int=>cases e;exact wpAny_mkInt (bn.tok r oA h)
  |_=>exact e.elim
 |str=>cases p with
  |str=>cases e;exact uF (bn.tok r rV h)
  |_=>exact e.elim
 |_=>cases p<;>exact e.elim
theorem Yy{p:PV}(E:et X env)(hx:vm.lookup i=ae x)(hn:(x==("__debug__":Str))=aq/\(x==("__classdict__":Str))=aq)(hp:ρ.getD i ai=ae p)(h:Q p H):bg X n env vm (.Name x pos) ρ H Q:=by
 intro A β s ra r rf;refine ay rf.ns ?_;intro m hm hv;refine ay (hv i x p hx hp) ?_;intro v hr k;refine wpAny_Name ?_ hn.1;rcases k with⟨k1,k2⟩|⟨k1|k1,c,k2,k3⟩
 ·exact wpAny_loadName_local E.kind k1 hm k2 (bn.same r hr h)
 ·exact wpAny_loadName_cell E.kind k1 k2 k3 (bn.same r hr h)
 ·exact wpAny_loadName_free E.kind k1 k2 k3 (bn.same r hr h) hn.2
theorem wk{A:bG}(O:cj X)(E:et X env)(r:aW X β H s)(hk:env.kindOf x=ae .globalImplicit)(hn:(x==("__debug__":Str))=aq)
 (hv:X.mg x=ae v\/(X.mg x=ai/\X.mb x=ae v))(h:P v s):Wp X A (bU (.Name x pos) env) P s:=by
 refine Name_function_global E.kind hk ?_ hn;rcases hv with hv|⟨h1,h2⟩
 ·exact loadGlobal_global (by refine aa (E.glob ..) ?_;exact O.glob.keeps r.top) hv h
 ·exact loadGlobal_builtin (by refine aa (E.glob ..) ?_;exact O.glob.keeps r.top) h1 (by refine aa (E.blt ..) ?_;exact O.blt.keeps r.top) h2 h
noncomputable def re(xs:List (At×PV))(a:At):Option PV:=(xs.find? λx=>x.1=a).map (·.2)
def fP(p:PV)(a:At)(H:HP)(Q:PV->HP->Prop):Prop:=match p with
 |.ak l=>match H.get l with
  |some (.inst C d)=>match H.get d with
   |some (.attrs xs)=>ok (re xs a) λv=>Q v H
   |_=>False
  |_=>False
 |_=>False
noncomputable def At.names:List Str:=["heap","analysis","values","told","nodes","numbers","weights","depths","above","lots","merged","bank","unions","edges","forest","known","waiting"]
theorem At.idx(a:At):At.names[a.ix]? =ae a.str:=by cases a<;>rfl
theorem At.nodup:At.names.Nodup:=by decide+kernel
theorem At.abM{a b:At}(h:a.ix=b.ix):a=b:=mQ ((a.kg.symm.trans (congrArg (λi=>At.gF[i]?) h)).trans b.kg)
theorem At.str_inj(a b:At)(h:a.str=b.str):a=b:=by
 have h1:=At.idx a;rw[h]at h1;exact At.abM ((List.getElem?_inj (bJ.mp h1).1 At.nodup).mp (h1.trans (At.idx b).symm))
theorem Nj{a b:At}(h:¬b=a):(b.str==a.str)=aq:=beq_eq_false_iff_ne.mpr λz=>h (At.str_inj _ _ z)
theorem YS{k:Value}{es:List hX}(h:k.isStr x=ag):getL x (⟨hs,k,v⟩::es)=ae (ae v):=by
 unfold getL;(refine aa (Of (p:=λe:hX=>e.key.isStr x) (a:=⟨hs,k,v⟩) h ..) ?_;rfl)
theorem JI{y:Str}{t:iw}{es:List hX}(h:(y==x)=aq):getL x (⟨hs,.str y t,v⟩::es)=getL x es:=by
 unfold getL;refine aa ((Oe (p:=λe:hX=>e.key.isStr x) (a:=⟨hs,.str y t,v⟩) λe=>ff (h.symm.trans e)) ..) ?_;rfl
theorem gy.get(a:At):∀{xs:List (At×PV)} {es:List hX},gy β h xs es->(re xs a=ai/\getL a.str es=ae ai)\/∃p v,re xs a=ae p/\getL a.str es=ae (ae v)/\aN β h p v:=by
 intro xs;induction xs with
 |nil=>
  intro _ e;refine aa (e ..) ?_;exact .inl ⟨rfl,rfl⟩
 |cons dP xs ih=>
  rcases dP with⟨b,p⟩
  intro _ dW;rcases dW with⟨hs,t,v,bI,e,x,r⟩
  refine aa (e ..) ?_;by_cases hk:b=a
  ·subst hk
   exact .inr ⟨p,v,te rfl,YS (beq_self_eq_true b.str),x⟩
  ·(refine aa ((show re ((b,p)::xs) a=re xs a from tf hk) ..) ?_;refine aa (JI (Nj hk) ..) ?_)
   exact ih r
theorem gy.noFn(hx:∀a:At,(a.str==x)=aq):∀{xs:List (At×PV)} {es:List hX},gy β h xs es->getL x es=ae ai:=by
 intro xs;induction xs with
 |nil=>
  intro _ e;refine aa (e ..) ?_;rfl
 |cons dP xs ih=>
  rcases dP with⟨b,p⟩
  intro _ dW;rcases dW with⟨hs,t,v,bI,e,_,r⟩
  refine aa (e ..) ?_;exact(JI (hx b)).trans (ih r)
theorem Ze:∀(p:PV) (v:Value),aN β h p v->handedIn v=ag
 |.none,_,x=>by refine aa ((show _=jA from x) ..) ?_;rfl
 |.bool _,_,x=>by refine aa ((show _=A5 _ from x) ..) ?_;rfl
 |.int _,_,⟨_,x⟩=>by refine aa (x ..) ?_;rfl
 |.str _,_,⟨_,x⟩=>by refine aa (x ..) ?_;rfl
 |.tup _,_,⟨_,_,_,x,_,_,_⟩=>by refine aa (x ..) ?_;rfl
 |.lst _,_,⟨_,_,_,x,_,_,_⟩=>by refine aa (x ..) ?_;rfl
 |.eh _,_,⟨_,_,_,_,x,_⟩=>by refine aa (x ..) ?_;rfl
 |.ak _,_,⟨_,x,_,_⟩=>by refine aa (x ..) ?_;rfl
inductive PR(β:bz)(h:Heap)(C:Cl)(l d:cr)(xs:List (At×PV))(v:Value):Prop
 |mk (a dx:aL) (es:List hX) (n:Nat) (e:v=.ref a) (hb:β l=ae a) (hd:β d=ae dx) (ho:h.get? dx=ae (dictOf es n)) (ha:gy β h xs es) (I:InstAt h a (pa C.addr dx) C.addr (ae (dictOf es n))) (z:xs.length<=40)
theorem DK{d:cr}{C:Cl}{xs:List (At×PV)}(r:aW X β H s)(x:aN β s.heap (.ak l) v)(e1:H.get l=ae (.inst C d))(e2:H.get d=ae (.attrs xs)):
 PR β s.heap C l d xs v:=by
 refine cb x ?_;clear x;intro a e3 e4 aj;rcases(r.obj l _ e1)with⟨a',o,e5,e6,dx,e7,e8,_⟩
 rw[e4]at e5;obtain rfl:=so e5;rcases(r.obj d _ e2)with⟨agM,o',e9,Ji,es,n,XO,XQ,XR⟩
 rw[e8]at e9;obtain rfl:=so e9;subst e7 XO;exact⟨a,dx,es,n,e3,e4,e8,Ji,XQ,⟨e6,rfl,rfl,Ji⟩,XR⟩
def Mh(H:HP)(o:Option aF)(f:Cl->cr->List (At×PV)->Prop):Prop:=match o with
 |some (.inst C d)=>match H.get d with
  |some (.attrs xs)=>f C d xs
  |_=>False
 |_=>False
theorem Mi{f:Cl->cr->List (At×PV)->Prop}(h:Mh H o f):∃C d xs,o=ae (.inst C d)/\H.get d=ae (.attrs xs)/\f C d xs:=by
 cases o with
 |none=>exact h.elim
 |some o=>cases o with
  |inst C d=>
   have key:∀q:Option aF,(match q with|some (.attrs xs)=>f C d xs|_=>False)->∃xs,q=ae (.attrs xs)/\f C d xs:=λq h=>by
    cases q with
    |none=>exact h.elim
    |some q=>cases q with
     |attrs xs=>exact⟨xs,rfl,h⟩
     |_=>exact h.elim
   refine ay (key _ h) ?_;intro xs e h;exact⟨C,d,xs,rfl,e,h⟩
  |_=>exact h.elim
theorem V6{p:PV}{a:At}(h:fP p a H Q):∃l C d xs v,p=.ak l/\H.get l=ae (.inst C d)/\H.get d=ae (.attrs xs)/\re xs a=ae v/\Q v H:=by
 cases p with
 |ak l=>
  refine t7 (Mi (f:=λU U xs=>ok (re xs a) λv=>Q v H) h) ?_;intro C d xs e1 e2 h;rcases(cX h)with⟨v,e3,h⟩
  exact⟨l,C,d,xs,v,rfl,e1,e2,e3,h⟩
 |_=>exact h.elim
theorem V7{A:bG}{p:PV}{a:At}{expr:Bool}(O:cj X)(r:aW X β H s)(x:aN β s.heap p v)(h:fP p a H Q):Wp X A (getAttr v a.str expr) (bn X β s.heap Q) s:=by
 refine Av (V6 h) ?_;rintro l C d xs w rfl aB;refine mJ aB ?_;clear aB;intro e1 e2 ew h;rcases(DK r x e1 e2)with⟨b,dx,es,n',rfl,hb,hd,ho,ha,I,_⟩
 rcases ha.get a with⟨q1,_⟩|⟨p',v',q1,q2,q3⟩
 ·exact nomatch q1.symm.trans ew
 ·cases q1.symm.trans ew
  exact get_value (r.K O) I (GB (O.get C).1).1 (findObj_own (O.get C).2.1 (O.attr C a).1 rfl (by rewrite[lookIn_dict];exact q2)) (Ze _ _ q3) (bn.tok r q3 h)
noncomputable def rT:Expr->Bool
 |.Call (.Name _ _) [] [] _=>aq
 |_=>ag
theorem Ci{o:Expr}{a:Str}{w:eL Value}(h:rT o=ag):A8 o a env w=w:=by
 cases o with
 |Call f es ks p=>cases f<;>first|rfl|(cases es<;>first|rfl|(cases ks<;>first|rfl|exact absurd h dG))
 |_=>rfl
theorem Yg{o:Expr}{a:At}(O:cj X)(ho:rT o=ag)(h:bg X n env vm o ρ H λp H'=>fP p a H' Q):bg X n env vm (.Attribute o a.str pos) ρ H Q:=by
 intro A β s ra r rf;show Wp X A (do
  let o'<-A8 o a.str env (bU o env)
  gx pos.atName
  let r<-fb [o'] (getAttr o' a.str ag)
  letTemporaryGo o o' r
  pure r) _ s
 refine aa (Ci ho ..) ?_;refine h.bind ra r rf λp v az H' s' r' cF vr g q=>?_;refine ax (fF (ax (cU (bP (V7 O r' vr q) (λv' wE h'=>?_) λU U x=>x))));exact ax (wpAny_letTemporaryGo (aP (h'.trans g)))
theorem Yi{op:oV}{l:Expr}(h:bg X n env vm l ρ H λp H1=>bg X n env vm e ρ H1 λq H2=>iY op aY p q H2 Q):bg X n env vm (.BinOp l op e pos) ρ H Q:=by
 intro A β s ra r rf;show Wp X A (do
  let a<-bU l env
  let b<-fb [a] (bU e env)
  gx pos
  xB [a,b] (uA op a b)) _ s
 refine h.bind ra r rf λp v az H' s' r' cF vr g q=>?_;refine ax (cU (q.run ra r' cF λp2 v2 eK H2 s2 r2 ir fC g2 q2=>?_));refine ax (fF (Br (bP (WE r2 (aN.go g2 _ _ vr) fC q2) (λU U x=>(x.trans g2).trans g) λU U x=>x)))
noncomputable def tN(e:Expr):Bool:=match e with|.Set .. =>aq|_=>ag
theorem Cj{op:lA}(h:tN e=ag)(t:eL Value):Bh op e t=t:=by
 cases e<;>first|rfl|exact absurd h dG
theorem Yk{op:lA}{l:Expr}(O:cj X)(hp:tN e=ag)(h:bg X n env vm l ρ H λp H1=>bg X n env vm e ρ H1 λq H2=>cK op p q H2 λb=>Q (.bool b) H2):bg X n env vm (.Compare l [op] [e] pos) ρ H Q:=by
 intro A β s ra r rf;refine(?_:Wp X A (do compareChain pos (<-bU l env) [op] [Bh op e (bU e env)]) _ s);rewrite[Cj hp];refine h.bind ra r rf λp v az H' s' r' cF vr g q=>?_;show Wp X A (do
  let rv<-fb [v] (bU e env)
  gx pos
  xB [v,rv] (qQ op v rv)) _ s'
 refine ax (cU (q.run ra r' cF λp2 v2 eK H2 s2 r2 ir fC g2 q2=>?_));refine ax (fF (Br (yB O.size ra r2 (aN.go g2 _ _ vr) fC (u4 q2 λb hb tk=>((bn.tok r2 wB hb).trans g2).trans g))))
theorem afU{op:lA}{l:Expr}(O:cj X)(hp:tN e=ag)(h:bg X n env vm l ρ H λp H1=>bg X n env vm e ρ H1 λq H2=>cK op p q H2 λb=>QB b H2):ic X n env vm (.Compare l [op] [e] pos) ρ H QB:=by
 intro A β s ra r rf;refine(?_:Wp X A (do testChain pos (<-bU l env) [op] [Bh op e (bU e env)]) _ s);rewrite[Cj hp];refine h.bind ra r rf λp v az H' s' r' cF vr g q=>?_;show Wp X A (do
  let rv<-fb [v] (bU e env)
  gx pos
  let c<-xB [v,rv] (qQ op v rv)
  fb [c] (xG c)) _ s'
 refine ax (cU (q.run ra r' cF λp2 v2 eK H2 s2 r2 ir fC g2 q2=>?_));refine ax (fF (ax (Br (yB O.size ra r2 (aN.go g2 _ _ vr) fC (u4 q2 λb hb tk=>cU (xM (((iU.tok r2 hb).trans g2).trans g)))))))
theorem afV{op iJ:lA}{l e2:Expr}(O:cj X)(hp:tN e2=ag)
 (h:bg X n env vm l ρ H λp H1=>bg X n env vm e ρ H1 λq H2=>cK op p q H2 λb=>if b=ag then bg X n env vm e2 ρ H2 λz H3=>cK iJ q z H3 λb2=>QB b2 H3 else QB aq H2):
 ic X n env vm (.Compare l [op,iJ] [e,e2] pos) ρ H QB:=by
 intro A β s ra r rf;refine(?_:Wp X A (do testChain pos (<-bU l env) [op,iJ] [bU e env,Bh iJ e2 (bU e2 env)]) _ s);rewrite[Cj hp];refine h.bind ra r rf λp v az H' s' r' cF vr g q=>?_;show Wp X A (do
  let rv<-fb [v] (bU e env)
  gx pos
  let c<-fb [v,rv] (qQ op v rv)
  release [v,rv] [c]
  if<-fb [c,rv] (xG c)then testChain pos rv [iJ] [bU e2 env]else pure aq) _ s'
 refine ax (cU (q.run ra r' cF λp2 v2 eK H2 s2 r2 ir fC g2 q2=>?_));refine ax (fF (ax (cU (yB O.size ra r2 (aN.go g2 _ _ vr) fC (u4 q2 λb hb tk=>?_)))));refine ax (GV (ax (cU (xM ?_))));cases b with
 |false=>
  simp only[dF,↓dy,if_false]at hb⊢;exact aP (((iU.tok r2 hb).trans g2).trans g)
 |true=>
  simp only[↓fw,if_true]at hb⊢;show Wp X A (do
   let rv<-fb [v2] (bU e2 env)
   gx pos
   let c<-xB [v2,rv] (qQ iJ v2 rv)
   fb [c] (xG c)) _ _
  refine ax (cU (hb.run (s:={s2 with toks:=tk}) ra (r2.tok tk) (ir.go (s':={s2 with toks:=tk}) (Go.refl bO _ _) (ny env)) λp3 v3 sf H3 s3 r3 nB agg g3 q3=>?_));refine ax (fF (ax (Br (yB O.size ra r3 (aN.go g3 _ _ fC) agg (u4 q3 λb hb tk=>cU (xM ((((iU.tok r3 hb).trans g3).trans g2).trans g)))))))
theorem afW(h:ic X n env vm e ρ H λb H'=>QB (!b) H'):ic X n env vm (.UnaryOp .Not e pos) ρ H QB:=by
 intro A β s ra r rf;refine(?_:Wp X A (do return !(<-sG e env (bU e env))) _ s);exact ax (bP (h A β s ra r rf) (λb s' zq=>by rcases zq with⟨az,H',r',g,q⟩;exact aP ⟨az,H',r',g,q⟩) λU U x=>x)
noncomputable def Np:Expr->Bool
 |.UnaryOp .Not _ _|.BoolOp .. |.IfExp .. |.Compare .. =>aq
 |_=>ag
theorem afX(hp:Np e=ag)(h:bg X n env vm e ρ H λp H'=>match p with|.bool b=>QB b H'|_=>False):ic X n env vm e ρ H QB:=by
 intro A β s ra r rf;have he:sG e env (bU e env)=(do let v<-bU e env;gx e.pos;fb [v] (xG v)):=by
  cases e with
  |UnaryOp op x p=>cases op<;>first|rfl|exact absurd hp dG
  |_=>first|rfl|exact absurd hp dG
 refine aa (he ..) ?_;refine h.bind ra r rf λp v az H' s' r' cF vr g q=>?_;refine ax (fF (cU ?_));cases p with
 |bool=>
  refine aa ((show v=.bool _ from vr) ..) ?_;exact xM ((iU.same r' q).trans g)
 |_=>exact q.elim
theorem afS{rest:List Expr}{op:BoolOp}
 (h:ic X n env vm e ρ H λb H1=>if b=(op==.And)then ic X n env vm (.BoolOp op rest pos') ρ H1 QB else QB b H1):ic X n env vm (.BoolOp op (e::rest) pos) ρ H QB:=by
 intro A β s ra r rf;show Wp X A (do
  match op,<-sG e env (bU e env)with
  |.And,aq=>pure aq
  |.Or,ag=>pure ag
  |_,_=>allTrue op rest env) _ s
 refine ax (bP (h A β s ra r rf) (λb s' zq=>?_) λU U x=>x);rcases zq with⟨az,H',r',g,q⟩
 cases op<;>cases b
 ·rw[if_neg (by decide)]at q;exact aP ((iU.same r' q).trans g)
 ·rw[if_pos (by decide)]at q
  exact bP (q A az s' ra r' (rf.go g (ny env))) (λU U x=>x.trans g) λU U x=>x
 ·rw[if_pos (by decide)]at q
  exact bP (q A az s' ra r' (rf.go g (ny env))) (λU U x=>x.trans g) λU U x=>x
 ·rw[if_neg (by decide)]at q;exact aP ((iU.same r' q).trans g)
theorem afT{op:BoolOp}(h:QB (op==.And) H):ic X n env vm (.BoolOp op [] pos) ρ H QB:=by
 intro A β s ra r rf;exact aP (iU.same r h)
set_option tactic.hygienic true in
theorem Ye{e e':Expr}{rest:List Expr}{pos pos':f0}{op:BoolOp}
 (h:bg X n env vm e ρ H λp H1=>match p with|.bool b=>if b=(op==.And)then bg X n env vm (.BoolOp op (e'::rest) pos) ρ H1 Q else Q p H1|_=>False):bg X n env vm (.BoolOp op (e::e'::rest) pos) ρ H Q:=by
 intro A β s ra r rf;show Wp X A (do
  let v<-bU e env
  gx pos
  let t<-fb [v] (xG v)
  match op,t with
  |.And,aq|.Or,ag=>pure v
  |_,_=>boolOp pos op (evalEach (e'::rest) env)) _ s
 refine h.bind ra r rf λp v az H' s' r' cF vr g q=>?_;split at q
 ·rename_i b
  refine aa ((show v=.bool b from vr) ..) ?_;refine ax (fF (ax (cU (xM ?_))));cases op<;>cases b
  ·rw[if_neg (by decide)]at q;exact aP ((bn.same r' wB q).trans g)
  ·rw[if_pos (by decide)]at q
   exact bP (q A az s' ra r' cF) (λ_ _ x=>x.trans g) λ_ _ x=>x
  ·rw[if_pos (by decide)]at q
   exact bP (q A az s' ra r' cF) (λ_ _ x=>x.trans g) λ_ _ x=>x
  ·rw[if_neg (by decide)]at q;exact aP ((bn.same r' wB q).trans g)
 ·exact q.elim
theorem Yf{op:BoolOp}(h:bg X n env vm e ρ H Q):bg X n env vm (.BoolOp op [e] pos) ρ H Q:=h
theorem Yp{c a b:Expr}(h:ic X n env vm c ρ H λt H'=>if t=ag then bg X n env vm a ρ H' Q else bg X n env vm b ρ H' Q):bg X n env vm (.IfExp c a b pos) ρ H Q:=by
 intro A β s ra r rf;refine(?_:Wp X A (do if<-sG c env (bU c env)then bU a env else bU b env) _ s);refine ax (bP (h A β s ra r rf) (λt s' zq=>?_) λU U x=>x);rcases zq with⟨az,H',r',g,q⟩
 cases t
 ·simp only[dF,↓dy,if_false]at q⊢
  exact bP (q A az s' ra r' (rf.go g (ny env))) (λU U x=>x.trans g) λU U x=>x
 ·simp only[↓fw,if_true]at q⊢
  exact bP (q A az s' ra r' (rf.go g (ny env))) (λU U x=>x.trans g) λU U x=>x
theorem Yo{o i:Expr}(O:cj X)(h:bg X n env vm o ρ H λp H1=>bg X n env vm i ρ H1 λq H2=>eV p q H2 Q):bg X n env vm (.Subscript o i pos) ρ H Q:=by
 intro A β s ra r rf;refine Subscript_ (h.run ra r rf λp v az H' s' r' cF vr g q=>?_);refine q.run ra r' cF λp2 v2 eK H2 s2 r2 ir fC g2 q2=>?_;exact bP (abp O.size ra r2 (aN.go g2 _ _ vr) fC q2) (λU U x=>(x.trans g2).trans g) λU U x=>x
def ib(X:Fx)(n:Nat)(env:Env)(vm:Vm)(es:List Expr)(ρ:aJ)(H:HP)(Q:List PV->HP->Prop):Prop:=
 ∀A β s pos,cE n A->aW X β H s->di X env vm β ρ s->Wp X A (Bo (jC pos (iS es env))) (xQ X β s.heap Q) s
noncomputable def noStar:Expr->Bool
 |.Starred .. =>aq
 |_=>ag
theorem wJ{es:List Expr}(h:noStar e=ag):iS (e::es) env=(aq,bU e env)::iS es env:=by
 cases e<;>first|rfl|exact absurd h dG
theorem Yc{Q:List PV->HP->Prop}(h:Q [] H):ib X n env vm [] ρ H Q:=λA β s pos ra r rf=>aP ⟨[],β,H,r,rfl,Go.refl _ _ _,h⟩
theorem Yb{Q:List PV->HP->Prop}{es:List Expr}(hs:noStar e=ag)(h:bg X n env vm e ρ H λp H1=>ib X n env vm es ρ H1 λps H2=>Q (p::ps) H2):ib X n env vm (e::es) ρ H Q:=by
 intro A β s pos ra r rf;refine aa (wJ hs ..) ?_;refine Gj (h.run ra r rf λp v az H' s' r' cF vr g q=>?_);exact bP (q A az s' pos ra r' cF) (λvs s2 zq=>by rcases zq with⟨ps,eK,H2,r2,fC,g2,q2⟩;exact⟨p::ps,eK,H2,r2,.cons (aN.go g2 _ _ vr) fC,g.trans g2,q2⟩) λU U x=>x
theorem ib.run{es:List Expr}{Q:List PV->HP->Prop}{P:List Value->aV->Prop}{A:bG}
 (h:ib X n env vm es ρ H Q)(ra:cE n A)(r:aW X β H s)(rf:di X env vm β ρ s)
 (k:∀ps vs az H' s',aW X az H' s'->di X env vm az ρ s'->bf az s'.heap ps vs->Go bO β az s.heap s'.heap->Q ps H'->P vs s'):Wp X A (Bo (jC pos (iS es env))) P s:=
 bP (h A β s pos ra r rf) (λv s' zq=>by rcases zq with⟨p,az,H',r',vr,g,q⟩;exact k p v az H' s' r' (rf.go g (ny env)) vr g q) λU U x=>x
theorem Yx{es:List Expr}(h:ib X n env vm es ρ H λps H'=>ps.length<=aI/\Q (.tup ps) H'):bg X n env vm (.Tuple es k pos) ρ H Q:=by
 intro A β s ra r rf;refine Tuple_ (h.run ra r rf λps vs az H' s' r' cF vr g q=>?_);refine wpAny_newTuple ?_ (by have:=vr.length;have:=gP;have:=q.1;omega);exact(bn.EH (h':=s'.heap.push _) (tk:=s'.toks) r' vr (bj _) (λb x q=>cv _ q) (by rewrite[dI];exact gQ) (dw _ rfl) q.2).trans g
theorem Ys{es:List Expr}(h:ib X n env vm es ρ H λps H'=>eb aY ps H' Q):bg X n env vm (.List es pos) ρ H Q:=by
 intro A β s ra r rf;refine List_ (h.run ra r rf λps vs az H' s' r' cF vr g q=>?_);refine Bq ?_ (by have:=vr.length;have:=gP;have:=q.1;exact Ru (by assumption) (by assumption) this);exact(bn.pW (h':=s'.heap.push _) (tk:=s'.toks) r' vr (bj _) (λb x q=>cv _ q) (by rewrite[dI];exact gQ) (dw _ rfl) q).trans g
end
end
section
set_option genSizeOf false
set_option genSizeOfSpec false
set_option genInjectivity false
set_option genCtorIdx false in
inductive Fl where
 |next|ret (p:PV)
inductive iV(X:Fx)(env:Env)(vm:Vm)(β:bz)(h:Heap)(Q:Fl->aJ->HP->Prop)(fl:Flow)(s':aV):Prop
 |mk (az:bz) (H':HP) (aU:aJ) (r:aW X az H' s') (rf:di X env vm az aU s') (g:Go (fn env) β az h s'.heap) (q:match fl with|.next=>Q .next aU H'|.ret v=>∃p,aN az s'.heap p v/\Q (.ret p) aU H'|_=>False)
theorem iV.trans{X:Fx}{Q:Fl->aJ->HP->Prop}{fl:Flow}(g:Go (fn env) β az h h')(x:iV X env vm az h' Q fl s'):iV X env vm β h Q fl s':=
 let⟨b,H,ρ,r,rf,g',q⟩:=x;⟨b,H,ρ,r,rf,g.trans g',q⟩
theorem Go.toT{T:aL->Prop}(x:Go bO β az h h'):Go T β az h h':=x.weak λU t=>t.elim
def iX(X:Fx)(n:Nat)(env:Env)(vm:Vm)(st:fE)(ρ:aJ)(H:HP)(Q:Fl->aJ->HP->Prop):Prop:=
 ∀A β s,cE n A->aW X β H s->di X env vm β ρ s->Wp X A (exec st env) (iV X env vm β s.heap Q) s
def iW(X:Fx)(n:Nat)(env:Env)(vm:Vm)(st:List fE)(ρ:aJ)(H:HP)(Q:Fl->aJ->HP->Prop):Prop:=
 ∀A β s,cE n A->aW X β H s->di X env vm β ρ s->Wp X A (execs st env) (iV X env vm β s.heap Q) s
def bC(X:Fx)(n:Nat)(f:Fn)(args:List PV)(H:HP)(Q:PV->HP->Prop):Prop:=
 ∀A β s vs,cE n A->aW X β H s->bf β s.heap args vs->kM (bN X.prog X.w) A (.call (.ref f.addr) ⟨vs,[]⟩) (λr s'=>match r with|.ok (.ret v)=>bn X β s.heap Q v s'|_=>False) s
theorem bC.le{X:Fx}{n:Nat}{f:Fn}(h:bC X m f args H Q)(hm:m<=n):bC X n f args H Q:=λA β s vs ra r hv=>h A β s vs (ra.le hm) r hv
theorem bC.mono{X:Fx}{n:Nat}{f:Fn}{R:PV->HP->Prop}(h:bC X n f args H Q)(i:∀p H,Q p H->R p H):bC X n f args H R:=λA β s vs ra r hv=>
 pc (h A β s vs ra r hv) λr s' x=>by
  cases r with
  |error e=>exact x
  |ok fl=>cases fl<;>first|exact x|exact bn.mono x i
section
variable{X:Fx}{n:Nat}
theorem ML{A:bG}{f:Fn}{ps:List PV}(ra:cE n A)(r:aW X β H s)(hv:bf β s.heap ps vs)(h:bC X n f ps H Q):Wp X A (call (.ref f.addr) vs) (bn X β s.heap Q) s:=
 Bp (pc (h A β s vs ra r hv) λr s' x=>by
  cases r with
  |error e=>exact x
  |ok fl=>cases fl<;>exact x)
theorem td{A:bG}{E:Value->aV->Prop}{f:Value}{args:List (Bool×eL Value)}{P:Args->aV->Prop}(hp:args.any (·.1)=aq)(h:bm M A (Bo args) (λvs s'=>P ⟨vs,[]⟩ s') E s):bm M A (evalArgs f ag args []) P E s:=by
 cases args with
 |nil=>
  unfold evalArgs;refine(?_:bm M A (Bo []>>=_) P E s);refine ax (bP h (λvs s' h'=>?_) λU U x=>x);refine cU ?_;exact ax (aP (ax (aP (aP h'))))
 |cons x rest=>
  rcases x with⟨b,t⟩
  cases b with
  |true=>simp at hp
  |false=>exact evalArgs_plain h
theorem plain_any:∀{es:List Expr},es.all noStar=ag->(jC pos (iS es env)).any (·.1)=aq:=by
 intro es;induction es with
 |nil=>
  intro _;exact rfl
 |cons a t ih=>
  intro h;rw[AD,mM]at h;refine aa (wJ h.1 ..) ?_;refine(?_:(aq||(jC pos (iS t env)).any (·.1))=aq);refine aa (ih h.2 ..) ?_;rfl
theorem plain_all:∀{es:List Expr},es.all noStar=ag->(jC pos (iS es env)).all (λx=>!x.1)=ag:=by
 intro es;induction es with
 |nil=>
  intro _;exact rfl
 |cons a t ih=>
  intro h;rw[AD,mM]at h;refine aa (wJ h.1 ..) ?_;refine(?_:(ag&&(jC pos (iS t env)).all (λx=>!x.1))=ag);refine aa (ih h.2 ..) ?_;rfl
theorem ND{A:bG}{f:Fn}{es:List Expr}{z9:List PV}{Nx:List Value}(O:cj X)(hs:es.all noStar=ag)(ra:cE n A)(r:aW X β H s)(rf:di X env vm β ρ s)(aa5:bf β s.heap z9 Nx)
 (h:ib X n env vm es ρ H λps H'=>bC X n f (z9++ps) H' Q):Wp X A (sE pos' (.ref f.addr) Nx (jC pos (iS es env)) []) (bn X β s.heap Q) s:=by
 refine callWith_of (by refine aa (plain_any hs ..) ?_;rfl) (keeps_K (O.zB f).2) (td (plain_any hs) (h.run ra r rf λps vs az H' s' r' cF hv g hc=>⟨r'.K O,?_⟩));exact bP (ML ra r' ((bf.go g _ _ aa5).append hv) hc) (λU U x=>x.trans g) λU U x=>x
theorem ady(f:Fn):(f.str==("__debug__":Str))=aq:=by cases f<;>kernel_rfl
theorem Yj{f:Fn}{es:List Expr}(O:cj X)(E:et X env)(hs:es.all noStar=ag)(hf:f.cls=ai)(hk:env.kindOf f.str=ae .globalImplicit)
 (h:ib X n env vm es ρ H λps H'=>bC X n f ps H' Q):bg X n env vm (.Call (.Name f.str np) es [] pos) ρ H Q:=by
 intro A β s ra r rf;refine(?_:Wp X A (do sE pos (<-bU (.Name f.str np) env) [] (jC pos (iS es env)) (pb pos (pd [] env))) _ s);refine ax (wk O E r hk (ady f) (.inl (O.JO f hf)) ?_);exact ND (z9:=[]) O hs ra r rf rfl h
theorem At.mem(a:At):a.str∈At.names:=eD (At.idx a)
theorem YD(f:Fn)(hc:f.cls≠ai)(hi:f≠.jM/\f≠.kP/\f≠.lp/\f≠.kQ):∀a:At,(a.str==f.str)=aq:=by
 have key:At.names.all (λx=>!(x==f.str))=ag:=by
  cases f<;>first|exact absurd rfl hc|exact absurd rfl hi.1|exact absurd rfl hi.2.1|exact absurd rfl hi.2.2.1|exact absurd rfl hi.2.2.2|kernel_rfl
 exactλa=>(Ax _).mp (qy.mp key _ (At.mem a))
def nu(p:PV)(f:Fn)(H:HP):Prop:=match p with
 |.ak l=>match H.get l with
  |some (.inst C d)=>f.cls=ae C/\match H.get d with
   |some (.attrs xs)=>True
   |_=>False
  |_=>False
 |_=>False
theorem ac1{p:PV}{f:Fn}(h:nu p f H):∃l C d xs,p=.ak l/\H.get l=ae (.inst C d)/\f.cls=ae C/\H.get d=ae (.attrs xs):=by
 cases p with
 |ak l=>
  have key:∀o:Option aF,(match o with|some (.inst C d)=>f.cls=ae C/\(match H.get d with|some (.attrs xs)=>True|_=>False)|_=>False)->∃C d xs,o=ae (.inst C d)/\f.cls=ae C/\H.get d=ae (.attrs xs):=λo h=>by
   cases o with
   |none=>exact h.elim
   |some o=>cases o with
    |inst C d=>
     have key:∀q:Option aF,(match q with|some (.attrs xs)=>True|_=>False)->∃xs,q=ae (.attrs xs):=λq h=>by
      cases q with
      |none=>exact h.elim
      |some q=>cases q with
       |attrs xs=>exact⟨xs,rfl⟩
       |_=>exact h.elim
     refine aM (key _ h.2) ?_;intro xs e;exact⟨C,d,xs,rfl,h.1,e⟩
    |_=>exact h.elim
  refine dU (key _ h) ?_;intro C d xs e;exact⟨l,C,d,xs,rfl,e⟩
 |_=>exact h.elim
theorem ac2{A:bG}{p:PV}{f:Fn}{pl:eL Bool}{P:Value×List Value->aV->Prop}(O:cj X)(r:aW X β H s)(x:aN β s.heap p v)(hi:f≠.jM/\f≠.kP/\f≠.lp/\f≠.kQ)(h:nu p f H)(k:P (.ref f.addr,[v]) s):
 Wp X A (getMethod v f.str pl) P s:=by
 refine wR (ac1 h) ?_;rintro l C d xs rfl aB;refine eB aB ?_;clear aB;intro e1 hc e2;rcases(DK r x e1 e2)with⟨b,dx,es,n',rfl,hb,hd,ho,ha,I,_⟩
 refine method_fn (r.K O) I (GB (O.get C).1).1 (GB (O.get C).1).2 (O.EK f C hc) (beq_iff_eq.mp (O.zB f).1) ?_ k;refine(?_:(lookIn f.str (dictOf es n')).map _=_)
 (rewrite[lookIn_dict];refine aa (ha.noFn (YD f (by refine aa ((hc) ..) ?_;exact Option.some_ne_none _) hi) ..) ?_)
 rfl
theorem Yt{o:Expr}{f:Fn}{es:List Expr}{apos:f0}(O:cj X)(ho:rT o=ag)(hs:es.all noStar=ag)(hl:es.length<30)(hp:(apos.endLine==pos.line)=ag)(hi:f≠.jM/\f≠.kP/\f≠.lp/\f≠.kQ)
 (h:bg X n env vm o ρ H λp H1=>nu p f H1/\ib X n env vm es ρ H1 λps H'=>bC X n f (p::ps) H' Q):bg X n env vm (.Call (.Attribute o f.str apos) es [] pos) ρ H Q:=by
 intro A β s ra r rf;show Wp X A (do
  let ov<-A8 o f.str env (bU o env)
  gx apos.atName
  Bi o f.str apos pos env ov (es.length+0) (jC pos (iS es env)) (pb pos (pd [] env))) _ s
 refine aa (Ci ho ..) ?_;refine h.bind ra r rf λp v az H' s' r' cF vr g zq=>?_;refine aK zq ?_;clear zq;intro q1 q2;refine ax (fF ?_);have Dg:Bj (es.length+0) (jC pos (iS es env)) (pb pos (pd [] env))=ag:=by
  unfold Bj;refine aa (plain_all hs ..) ?_;refine(?_:(ag&&ag&&decide (es.length+0+0<30))=ag);exact decide_eq_true (Hs hl)
 unfold Bi;refine aa (Dg ..) ?_;refine ax (cU ?_);refine(?_:Wp X A (getMethod v f.str _) _ s');refine ac2 O r' vr hi q1 ?_;refine ax ?_;unfold methodCallPos;refine aa (if_pos (show(!ag||apos.endLine==pos.line)=ag from hp) ..) ?_;refine aP ?_;exact bP (ND (z9:=[p]) O hs ra r' cF (.one vr) q2) (λU U x=>x.trans g) λU U x=>x
theorem aeq{A:bG}(ra:cE (n+1) A)(C:aL)(vs:List Value):cE n (A.under (.builtin "type.__call__" ⟨.ref C::vs,[]⟩)):=
 ⟨by rewrite[depth_under_make];have:=ra.depth;exact a5 this,by rewrite[units_under_make];have:=ra.units;exact a2 this,ra.hd⟩
noncomputable def wq(C:Cl)(f1 f2:dn)(H:HP):HP:=(H.push (.attrs []) f2).push (.inst C (H.next f2)) f1
theorem LR(C:Cl)(f1 f2:dn)(r:aW X β H s):
 ∃az,aW X az (wq C f1 f2 H) {s with heap:=(s.heap.push mV).push (pa C.addr s.heap.objs.size)}/\Go bO β az s.heap ((s.heap.push mV).push (pa C.addr s.heap.objs.size))/\
  az ((H.push (.attrs []) f2).next f1)=ae (s.heap.objs.size+1):=by
 have k1:∀b x,s.heap.get? b=ae x->(s.heap.push mV).get? b=ae x:=λb x q=>cv _ q;refine aK (r.push (tk:=s.toks) (po:=.attrs []) (o:=mV) f2 (bj _) k1 (by rewrite[dI];exact gQ) (dw _ rfl) ⟨[],0,rfl,rfl,by exact bR rfl⟩) ?_;intro r1 g1;have bW:(s.heap.push mV).objs.size=s.heap.objs.size+1:=by(rewrite[dI];rfl)
 have k2:∀b x,(s.heap.push mV).get? b=ae x->((s.heap.push mV).push (pa C.addr s.heap.objs.size)).get? b=ae x:=λb x q=>cv _ q
 (refine aK (r1.push (tk:=s.toks) (po:=.inst C (H.next f2)) (o:=pa C.addr s.heap.objs.size) (a:=s.heap.objs.size+1) f1 (by show(s.heap.push mV).objs.size<=_;exact RG bW) k2 (by show(s.heap.push mV).objs.size<=_;(rewrite[dI];rewrite[dI]);exact RL bW) (by refine aQ (bW ..) ?_;exact dw _ rfl)
   ⟨s.heap.objs.size,rfl,(by
     unfold bz.put;rewrite[if_neg]
     ·(refine aa (if_pos rfl ..) ?_;rfl)
     ·intro z
      have:=HP.vp (H.push (.attrs []) f2) f1;rw[<-z,HP.vq,if_pos rfl]at this;exact sn this),HP.jl _ _⟩) ?_;intro r2 g2)
 exact⟨_,r2,g1.trans g2,by unfold bz.put;(refine aa (if_pos rfl ..) ?_;rfl)⟩
theorem adc{A:bG}{C:Cl}{f:Fn}{ps:List PV}(O:cj X)(hf:f.cls=ae C/\f.str=("__init__":Str))(ra:cE (n+1) A)(r:aW X β H s)(hv:bf β s.heap ps vs)
 (h:bC X n f (.ak ((H.push (.attrs []) f2).next f1)::ps) (wq C f1 f2 H) λp H'=>p=.none/\Q (.ak ((H.push (.attrs []) f2).next f1)) H'):
 Wp X A (call (.ref C.addr) vs) (bn X β s.heap Q) s:=by
 refine Bp ?_;refine cb (LR C f1 f2 r) ?_;intro az r' g hb
 have hi:=O.EK f C hf.1;rw[hf.2]at hi;rcases s with⟨hh,gg,d,t,os⟩
 refine make_core (makes_of (r.K O) (O.get C).2.2.2.2) (looks_findIn (r.K O) hi) (λself=>bind_fn (r.K O) self (beq_iff_eq.mp (O.zB f).1)) (.inl rfl) ?_;refine pc (h _ az _ (.ref (hh.objs.size+1)::vs) (aeq ra _ _) r' (.cons (qa (HP.jl _ _) hb) (bf.go g _ _ hv))) λrr s' x=>?_;rcases rr with e|(v|_|_|w)
 ·exact x
 ·exact x
 ·exact x
 ·exact x
 ·rcases x with⟨p,b,H',r2,v2,g2,hp,q⟩
  subst hp;exact⟨v2,⟨_,b,H',r2,qa (HP.jl _ _) (g2.sub _ _ hb),g.trans g2,q⟩⟩
theorem ade{A:bG}(O:cj X)(r:aW X β H s)
 (h:Q (.ak ((H.push (.attrs []) f2).next f1)) (wq .fG f1 f2 H)):
 Wp X A (call (.ref Cl.fG.addr) []) (bn X β s.heap Q) s:=by
 refine Bp ?_;refine cb (LR .fG f1 f2 r) ?_;intro az r' g hb
 have k:=r.K O;rcases s with⟨hh,gg,d,t,os⟩
 have Y:=makes_of (M:=bN X.prog X.w) k (O.get .fG).2.2.2.2;refine make_core Y (looks_findIn k O.L9) (λself=>Looks.of_pure (oi_bind self)) (.inr ⟨rfl,rfl⟩) ?_;have hx:((hh.push mV).push (pa Cl.fG.addr hh.objs.size)).get? (hh.objs.size+1)=ae (pa Cl.fG.addr hh.objs.size):=by
  refine aQ (dI hh mV ..) ?_;exact dw _ rfl
 refine Po oi_plain entry_oi (@check_slot (bN X.prog X.w) _ _ _ "object.__init__" "object" "__init__" (.ref (hh.objs.size+1)) [] [] _ oi_kind oi_split (((Looks.ld hx).andThen .now).andThen (Y.top.keeps λb o e=>cv _ (cv _ e))) (oi_args (.ref (hh.objs.size+1))) ?_);rewrite[oi_run];exact aP (qw rfl ⟨_,az,_,r',qa (HP.jl _ _) hb,g,h⟩)
theorem WZ(C:Cl):(C.str==("__debug__":Str))=aq:=by cases C<;>kernel_rfl
end
end
variable{body:aJ->HP->(Fl->aJ->HP->Prop)->Prop}
section
theorem LL{names:List Str}:∀{vs:List Value} {i:Nat} {x:Str} {v:Value},names.Nodup->names[i]? =ae x->vs[i]? =ae v->(names.zip vs).lookup x=ae v:=by
 induction names with
 |nil=>intro vs i x v _ h;exact ns h
 |cons a r ih=>
  intro vs i x v hn hx hv;rw[lz]at hn;cases vs with
  |nil=>exact ns hv
  |cons b t=>
   refine aa (AL ..) ?_;refine aa (l6 ..) ?_;cases i with
   |zero=>simp at hx hv;subst hx hv;simp
   |succ j=>
    simp only[Oh]at hx hv;have dJ:(x==a)=aq:=by
     rewrite[beq_eq_false_iff_ne];rintro rfl;exact hn.1 (eD hx)
    refine aa (dJ ..) ?_;exact ih hn.2 hx hv
theorem WI{fd:AX}(hp:fd.params={posonlyargs:=[],args:=as,vararg:=ai,kwonlyargs:=[],kw_defaults:=[],kwarg:=ai,defaults:=[]})(hd:fd.defaults=.none)
 (hn:(as.map (·.arg)).Nodup)(hl:vs.length=as.length):bindArgs fd ⟨vs,[]⟩=pure ((as.map (·.arg)).zip vs):=by
 have hm:(as.map (·.arg)).filterMap (λn=>(((as.map (·.arg)).zip vs).lookup n).map (n,·))=(as.map (·.arg)).zip vs:=by
  have key:∀(names:List Str) (vs:List Value) (L:List (Str×Value)),names.length=vs.length->(∀(i:Nat) x v,names[i]? =ae x->vs[i]? =ae v->L.lookup x=ae v)->names.filterMap (λn=>(L.lookup n).map (n,·))=names.zip vs:=by
   intro names;induction names with
   |nil=>intro vs L _ _;rfl
   |cons a r ih=>
    intro vs L hl h;cases vs with
    |nil=>simp at hl
    |cons b t=>
     refine aa (uf ..) ?_;refine aa (((h 0 a b rfl rfl)) ..) ?_;simp only[mc,AL];refine aa (ih t L (by simpa using hl) (λi x v e1 e2=>h (i+1) x v (by exact e1) (by exact e2)) ..) ?_;rfl
  exact key _ _ _ (by simp[hl]) λi x v e1 e2=>LL hn e1 e2
 have aal:(as.map (·.arg)).filter (λn=>(((as.map (·.arg)).zip vs).lookup n).isNone)=[]:=by
  rewrite[FP];intro x hx;refine aM (List.mem_iff_getElem?.mp hx) ?_;intro i hi;have bo:i<vs.length:=by
   have:=(bJ.mp hi).1;simp at this;exact ie hl this
  refine aa (LL hn hi (bV bo) ..) ?_;simp
 have Ke:∀k,List.drop k (Option.getD (ai:Option (Array Value)) #[]).toList=[]:=λU=>List.drop_nil;have hg:¬vs.length>as.length:=RV hl;rcases fd with⟨f1,f2,f3,f4,f5,f6,f7,f8,f9,agN,agO⟩
 dsimp only at hp hd;subst hp hd;refine(if_neg ?_).trans ((if_neg ?_).trans ?_)
 ·refine(?_:¬(decide (vs.length>(as.map (·.arg)).length)&&ag)=ag)
  (rewrite[bp];refine aa (decide_eq_false hg ..) ?_);exact dG
 ·rewrite[Ke]
  refine(?_:¬(!(si (λn=>(List.lookup n ((as.map (·.arg)).zip vs)).isNone) (List.take (as.map (·.arg)).length (as.map (·.arg)))).isEmpty)=ag)
  (refine aa (kL ..) ?_;refine aa (aal ..) ?_);exact dG
 ·(rewrite[Ke];refine aa (OC ..) ?_)
  exact congrArg (λl=>(pure l:eL (List (Str×Value)))) ((congrArg (List.filterMap λn=>(((as.map (·.arg)).zip vs).lookup n).map (n,·)) (kI (as.map (·.arg)))).trans hm)
theorem IN:∀{bs:List (Str×Value)} {m:Str->Option Value},x∉bs.map (·.1)->bindL kindOf bs m x=m x
 |[],_,_=>rfl
 |(n,v)::r,m,h=>by
  rw[bB,cH,not_or]at h;unfold bindL;refine aa (IN h.2 ..) ?_;by_cases hk:kindOf n=ae .local
  ·refine aa (if_pos hk ..) ?_;show(if x=n then ae v else m x)=_;(refine aa (if_neg h.1 ..) ?_;rfl)
  ·(refine aa (if_neg hk ..) ?_;rfl)
theorem IL:∀{bs:List (Str×Value)} {m:Str->Option Value},x∉bs.map (·.1)->bindC kindOf bs m x=m x
 |[],_,_=>rfl
 |(n,v)::r,m,h=>by
  rw[bB,cH,not_or]at h;unfold bindC;refine aa (IL h.2 ..) ?_;by_cases hk:kindOf n=ae .local
  ·(refine aa (if_pos hk ..) ?_;rfl)
  ·refine aa (if_neg hk ..) ?_;show(if x=n then ae v else m x)=_;(refine aa (if_neg h.1 ..) ?_;rfl)
theorem IM(hk:kindOf x=ae .local):∀{bs:List (Str×Value)} {m:Str->Option Value},(bs.map (·.1)).Nodup->(x,v)∈bs->bindL kindOf bs m x=ae v
 |(n,w)::r,m,hn,h=>by
  rw[bB,lz]at hn;unfold bindL;rcases cH.mp h with e|h
  ·(refine aK (F8 e) ?_;rintro rfl rfl)
   refine aa (IN hn.1 ..) ?_;refine aa (if_pos hk ..) ?_;simp
  ·exact IM hk hn.2 h
theorem IJ(hk:kindOf x≠ae .local):∀{bs:List (Str×Value)} {m:Str->Option Value},(bs.map (·.1)).Nodup->(x,v)∈bs->bindC kindOf bs m x=ae v
 |(n,w)::r,m,hn,h=>by
  rw[bB,lz]at hn;unfold bindC;rcases cH.mp h with e|h
  ·(refine aK (F8 e) ?_;rintro rfl rfl)
   refine aa (IL hn.1 ..) ?_;refine aa (if_neg hk ..) ?_;simp
  ·exact IJ hk hn.2 h
structure Bv(X:Fx)(f:Fn)(fd:AX)(o:Obj)(as:List Arg)(body:List fE):Prop where
 look:X.K.lookup f.addr=ae o
 data:o.data=.func fd
 params:fd.params={posonlyargs:=[],args:=as,vararg:=ai,kwonlyargs:=[],kw_defaults:=[],kwarg:=ai,defaults:=[]}
 dflt:fd.defaults=.none
 nd:(as.map (·.arg)).Nodup
 body:fd.body=.stmts body
 pF:fd.closure=[]
 glob:fd.globals=nT
 blt:fd.builtins=A9
 kind:fd.scope.kind=.function
 co:fd.scope.isCoroutine=aq
 gen:fd.scope.isGenerator=aq
 code:codeIn X.K fd.code fd.qualname=ag
 kinds:∀a∈as,fd.scope.names.lookup a.arg=ae .local\/fd.scope.names.lookup a.arg=ae .cell
noncomputable def ce(args:List PV)(k:Nat):aJ:=args.map ae++cu k ai
theorem aep{p:PV}(h:(ce args k).getD i ai=ae p):args[i]? =ae p:=by
 unfold ce at h;rw[da,nK]at h;split at h
 ·rw[dB]at h
  cases q:args[i]? with
  |none=>rw[q]at h;exact ns h
  |some z=>rw[q]at h;exact h
 ·rw[Oj]at h
  split at h<;>exact ns h
theorem YE{X:Fx}{n:Nat}{f:Fn}{fd:AX}{o:Obj}{body:List fE}(O:cj X)(F:Bv X f fd o as body)
 (aa8:∀i x,i<as.length->vm.lookup i=ae x->(as.map (·.arg))[i]? =ae x)(hl:args.length=as.length)
 (h:∀env,et X env->env.scope=fd.scope->iW X n env vm body (ce args k) H λfl U H'=>Q (match fl with|.next=> .none|.ret p=>p) H'):
 bC X (n+1) f args H Q:=by
 intro A β s vs ra r hv;have Kt:vs.length=as.length:=by(refine aa (hv.length ..) ?_;refine aa (hl ..) ?_;rfl)
 have bv:(((as.map (·.arg)).zip vs).map (·.1)).Nodup:=by
  refine aa (List.map_fst_zip (by simp[Kt]) ..) ?_;exact F.nd
 refine codeAny_call_cells (o:=o) (fd:=fd) (body:=body) (binds:=(as.map (·.arg)).zip vs) ra.d ((r.K O) _ _ F.look) F.data (O.nolimit.keeps r.top) (codeRec_of (r.K O) F.code) F.body (WI F.params F.dflt F.nd Kt) F.pF
  (kindsX (by
    rewrite[qy]
    (intro aj;rcases aj with⟨x,v⟩;intro hx)
    refine ay (bH.mp (Ox hx).1) ?_;rintro a ha rfl;rcases F.kinds a ha with e|e<;>simp[e]) _) (λs₁ x=>?_) F.co F.gen F.kind
 have hE:(qO fd s.heap.objs.size f.addr).scope=fd.scope:=rfl;have E:et X (qO fd s.heap.objs.size f.addr):=⟨F.kind,F.glob,F.blt,r.lo,λm c e=>by
  have:=x.above m c (xA e);have hL:(qO fd s.heap.objs.size f.addr).locals=s.heap.objs.size:=rfl;rw[hL]at this⊢;exact⟨dC r.lo (jy this),xi this⟩,λm m' c e e'=>name_of_addr x.apart (xA e) (xA e'),λy e=>cellsFrom_some (x:=y) fd.scope.names (s.heap.objs.size+1) [] (.inl e)⟩
 have KG:s₁.os=s.os/\s₁.gens=s.gens:=by(refine eC x.toInCall.same ?_;intro h' tk e);refine aa (e ..) ?_;exact⟨rfl,rfl⟩
 have kh:(qO fd s.heap.objs.size f.addr).locals=s.heap.objs.size:=rfl;have bW:s.heap.objs.size<=s₁.heap.objs.size:=by
  have:=x.toInCall.ns.lt;rw[kh]at this;exact jy this
 have g1:Go bO β β s.heap s₁.heap:=Go.of_keep x.toInCall.keep bW;have rf:di X (qO fd s.heap.objs.size f.addr) vm β (ce args k) s₁:=by
  refine⟨⟨_,x.toInCall.ns,λi y p e q=>?_⟩,λl e=>?_,λm c e=>⟨⟨_,x.cell m c e⟩,λl e'=>?_⟩⟩
  ·have hp:=aep q
   have hi:i<as.length:=by refine aQ (hl ..) ?_;exact(bJ.mp hp).1
   refine ay (hv.get hp) ?_;intro v ev rv;have iF:(y,v)∈(as.map (·.arg)).zip vs:=by
    apply eD (i:=i);rewrite[List.getElem?_zip_eq_some];exact⟨(aa8 i y hi e),ev⟩
   refine⟨v,aN.go g1 _ _ rv,?_⟩;refine ay (bH.mp (Ox iF).1) ?_;rintro a ha rfl;rcases F.kinds a ha with e2|e2
   ·exact .inl ⟨e2,IM (kindOf:=(qO fd s.heap.objs.size f.addr).kindOf) e2 bv iF⟩
   ·have e3:(qO fd s.heap.objs.size f.addr).kindOf a.arg=ae .cell:=e2
    refine aM (uq.mp (cellsFrom_some (x:=a.arg) fd.scope.names (s.heap.objs.size+1) [] (.inl e2))) ?_;intro c hc;refine .inr ⟨.inl e2,c,hc,?_⟩
    have:=x.cell a.arg c hc;rwa [IJ (kindOf:=(qO fd s.heap.objs.size f.addr).kindOf) (by refine aa (e3 ..) ?_;simp) bv iF]at this
  ·rw[kh]at e;exact r.mE (bj _) l e
  ·have:=x.above m c (xA e)
   rw[kh]at this;exact r.mE (jy this) l e'
 refine bP (h _ E hE (A.deeper _) β s₁ (ra.deeper _) (r.YZ x.toInCall.keep bW KG.1 KG.2) rf) (λfl s' zq=>?_) λU U x=>x.elim;rcases zq with⟨az,H',aU,r',cF,g,q⟩
 have g2:Go bO β az s.heap s'.heap:=by
  have gg:=g1.toT.trans g;refine⟨gg.sub,gg.fresh,λa o e U n=>gg.keep a o e (λt=>?_) n,gg.ng,gg.size⟩
  have:=cq e;rcases t with rfl|⟨m,e'⟩
  ·rw[kh]at this;exact jV _ this
  ·have h2:=x.above m a (xA e')
   rw[kh]at h2;exact jV _ (gO this h2)
 cases fl with
 |next=>exact⟨.none,az,H',r',wC,g2,q⟩
 |ret v=>(refine ay q ?_;clear q;intro p rv q);exact⟨p,az,H',r',rv,g2,q⟩
 |brk=>exact q.elim
 |cont=>exact q.elim
end
section
theorem E5{Γ:Ctx}{p:f0}{t:eL Fin}{fs:List Frame}{e:End}(h:Runs M Γ p t fs s e s'):s.heap.objs.size<=s'.heap.objs.size:=by
 induction h<;>(try simp only[aV.setGen,dI,AY]at*)<;>omega
theorem aem{Γ:Ctx}{p:f0}{r:Result}(h:Returns M Γ p s r s'):s.heap.objs.size<=s'.heap.objs.size:=E5 h
theorem agl{Γ:Ctx}{p:f0}{g:Nat}{r:Resume}{res:GenResult}(h:Wakes M Γ p g r s res s'):s.heap.objs.size<=s'.heap.objs.size:=by
 unfold Wakes at h;split at h
 ·exact h.elim
 ·split at h
  ·(refine NG h ?_;clear h;rintro e₁ s₁ hr aj aB rfl);exact(E5 hr:(s.setGen g .running).heap.objs.size<=s₁.heap.objs.size)
  ·refine aa (h.2 ..) ?_;exact bj _
  ·refine aa (h.2 ..) ?_;exact bj _
 ·(refine NG h ?_;clear h;rintro e₁ s₁ hr aj aB rfl);exact(E5 hr:(s.setGen g .running).heap.objs.size<=s₁.heap.objs.size)
 ·refine aa (h.2 ..) ?_;exact bj _
 ·refine aa (h.2 ..) ?_;exact bj _
theorem ags{α:Type}(M:Model)(Γ:Ctx)(n:Nat)(t:eL α):∀(Q:α->f0->aV->Prop) (E:Value->f0->aV->Prop) (p:f0) (s:aV),n<=s.heap.objs.size->eL.wp M Γ t Q E p s->
 eL.wp M Γ t (λa p' s'=>n<=s'.heap.objs.size/\Q a p' s') (λe p' s'=>n<=s'.heap.objs.size/\E e p' s') p s:=by
 induction t with
 |pure a=>intro Q E p s hn h;exact⟨hn,h⟩
 |raise e=>intro Q E p s hn h;exact⟨hn,h⟩
 |unsupported _=>intro Q E p s _ h;exact h
 |finish _=>intro Q E p s _ h;exact h
 |rule _ k ih=>intro Q E p s hn h;exact ih () Q E p s hn h
 |«at» p' k ih=>intro Q E p s hn h;exact ih () Q E p' s hn h
 |load a _ k ih=>intro Q E p s hn h;(refine ay h ?_;clear h;intro o ho h);exact⟨o,ho,ih o Q E p s hn h⟩
 |update a _ f k ih=>intro Q E p s hn h;exact⟨h.1,ih () Q E p _ (by show n<=(s.heap.update a f).objs.size;rewrite[AY];exact hn) h.2⟩
 |loadIfAlive a k ih=>intro Q E p s hn h;exact ih _ Q E p s hn h
 |point _ k ih=>intro Q E p s hn h;exact ih () Q E p s hn h
 |register _ _=>intro Q E p s _ h;exact h
 |alloc o k ih=>intro Q E p s hn h;exact ih _ Q E p _ (by show n<=(s.heap.push o).objs.size;rewrite[dI];exact x7 hn) h
 |fresh k ih=>intro Q E p s hn h;exact ih _ Q E p _ hn h
 |ask k ih=>intro Q E p s hn h;exact ih _ Q E p s hn h
 |choose src m k ih=>intro Q E p s hn h;exact⟨h.1,ih _ Q E p _ hn h.2⟩
 |os q _ k ih=>intro Q E p s hn h;exact ih _ Q E p _ hn h
 |call c hd _ _ k ih=>intro Q E p s hn h;(refine cZ h ?_;clear h;intro r s' hr h);exact⟨r,s',hr,ih r Q E p s' (dC hn (aem hr)) h⟩
 |handled own k ih=>intro Q E p s hn h;exact ih _ Q E p s hn h
 |genState g k ih=>intro Q E p s hn h;(refine ay h ?_;clear h;intro st hs h);exact⟨st,hs,ih _ Q E p s hn h⟩
 |newGen c k ih=>intro Q E p s hn h;exact ih _ Q E p _ hn h
 |resume g r _ k ih=>intro Q E p s hn h;(refine cZ h ?_;clear h;intro res s' hw h);exact⟨res,s',hw,ih res Q E p s' (dC hn (agl hw)) h⟩
 |yield _ _ _ _=>intro Q E p s _ h;exact h
 |stack k ih=>intro Q E p s hn h;exact ih _ Q E p s hn h
 |fork _ _=>intro Q E p s _ h;exact h
 |thread k ih=>intro Q E p s hn h;exact ih _ Q E p s hn h
 |await _ _ _ _ _=>intro Q E p s _ h;exact h
theorem jt{α:Type}{A:bG}{t:eL α}{Q:α->aV->Prop}{E:Value->aV->Prop}
 (h:bm M A t (λa s'=>s.heap.objs.size<=s'.heap.objs.size->Q a s') E s):bm M A t Q E s:=λΓ p DF=>
 eL.wp_mono M Γ t (λa p' s' x=>x.2 x.1) (λU U U x=>x.2) p s (ags M Γ s.heap.objs.size t _ _ p s (bj _) (h Γ p DF))
section
variable{X:Fx}{n:Nat}{Q:Fl->aJ->HP->Prop}
structure jG(env:Env)(vm:Vm):Prop where
 inj:∀i j x,vm.lookup i=ae x->vm.lookup j=ae x->i=j
noncomputable def aR(ρ:aJ)(i:Nat)(p:PV):aJ:=ρ.set i (ae p)
theorem MQ{p:PV}(h:(aR ρ i p).getD j ai=ae q):(j=i/\p=q)\/(j≠i/\ρ.getD j ai=ae q):=by
 unfold aR at h;rw[da,uj]at h;by_cases rx:i=j
 ·subst rx
  rw[if_pos rfl]at h;split at h
  ·left;exact⟨rfl,by simpa using h⟩
  ·exact ns h
 ·rw[if_neg rx]at h
  right
  exact⟨λe=>rx e.symm,by refine aa (da ..) ?_;exact h⟩
theorem Nf{A:bG}{p:PV}{P:Unit->aV->Prop}(E:et X env)(V:jG env vm)(hx:vm.lookup i=ae x)(hk:env.kindOf x=ae .local\/env.kindOf x=ae .cell)
 (r:aW X β H s)(rf:di X env vm β ρ s)(hv:aN β s.heap p v)
 (k:∀s',aW X β H s'->di X env vm β (aR ρ i p) s'->aN β s'.heap p v->Go (λa=>fn env a/\(env.kindOf x=ae .local->a=env.locals)) β β s.heap s'.heap->P () s'):Wp X A (storeName env x v) P s:=by
 rcases rf with⟨⟨m,hm,vS⟩,tJ,cells⟩
 have mk:∀{a:aL} {h':Heap} {tk:Nat},(fn env a/\(env.kindOf x=ae .local->a=env.locals))->(∀l,β l≠ae a)->(∀o,s.heap.get? a=ae o->¬to o)->jW a s.heap h'->Go (λa=>fn env a/\(env.kindOf x=ae .local->a=env.locals)) β β s.heap h'/\aW X β H {s with heap:=h',toks:=tk}:=by
  intro a h' tk ha hn hh hs;have g:Go (λa=>fn env a/\(env.kindOf x=ae .local->a=env.locals)) β β s.heap h':=⟨λU U e=>e,λU U e=> .inl e,λb o e t U=>(hs.2 b (λz=>t (z▸ha))).trans e,λb o e t U=>(hs.2 b (λz=>hh o (z▸e) t)).trans e,au hs.1.symm⟩
  refine⟨g,r.keep (s':={s with heap:=h',toks:=tk}) g (λb t=>?_) (λi b e t=>?_) rfl rfl λl b U e=>hs.2 b (λz=>hn l (z▸e))⟩;rcases t.1 with rfl|⟨nm,e⟩
  ·exact E.lo
  ·exact(E.pF nm b e).1
  rcases t.1 with rfl|⟨nm,e'⟩
  ·exact absurd e (tJ _)
  ·exact absurd e ((cells nm b e').2 _)
 rcases hk with hk|hk
 ·refine wpAny_storeName_local hk hm (λh' vG fS=>?_) (by refine aa (E.kind ..) ?_;rfl)
  (refine aK (mk (tk:=s.toks+1) ⟨.inl rfl,λU=>rfl⟩ tJ (λo e hd=>by
    refine t7 hm ?_;clear hm;intro o' es ep e' fI aj;rw[e]at e';obtain rfl:=so e';rcases hd with⟨xs,n,hd⟩|⟨xs,_,hd⟩
    ·rw[fI]at hd;exact jw (noConfusion_of_Nat uv hd)
    ·rw[fI]at hd;exact jw (noConfusion_of_Nat uv hd)) fS) ?_;intro g r')
  refine k _ r' ⟨⟨_,vG,λj y q ej eq=>?_⟩,tJ,λnm c e=>⟨?_,(cells nm c e).2⟩⟩ (aN.go g _ _ hv) g
  ·rcases MQ eq with⟨rfl,rfl⟩|⟨dJ,eq⟩
   ·rw[hx]at ej;obtain rfl:=so ej
    exact⟨v,aN.go g _ _ hv,.inl ⟨hk,by simp⟩⟩
   ·have DD:y≠x:=λz=>dJ (V.inj _ _ _ ej (z▸hx))
    refine ay (vS j y q ej eq) ?_;intro w hw kk;refine⟨w,aN.go g _ _ hw,kk.imp (λzq=>by(refine aK zq ?_;clear zq;intro a b);exact⟨a,by show(if y=x then ae v else m y)=_;refine aa (if_neg DD ..) ?_;exact b⟩) λ⟨a,c,b,d⟩=>⟨a,c,b,?_⟩⟩;exact d.sameBut fS (E.pF y c b).2
  ·(refine aM ((cells nm c e).1) ?_;intro w hw)
   exact⟨w,hw.sameBut fS (E.pF nm c e).2⟩
 ·(refine aM (uq.mp (E.Cs x hk)) ?_;intro c ec)
  refine aK (cells x c ec) ?_;intro aj Zx;refine aM aj ?_;clear aj;intro w0 vT;refine wpAny_storeName_cell E.kind hk ec vT (λh' n9 fS=>?_)
  (refine aK (mk (tk:=s.toks) ⟨.inr ⟨x,ec⟩,λz=>by rw[hk]at z;cases z⟩ Zx (λo e hd=>by
    refine ay vT ?_;clear vT;intro o' e' fI;rw[e]at e';obtain rfl:=so e';rcases hd with⟨xs,n,hd⟩|⟨xs,_,hd⟩
    ·rw[fI]at hd;exact jw (noConfusion_of_Nat uv hd)
    ·rw[fI]at hd;exact jw (noConfusion_of_Nat uv hd)) fS) ?_;intro g r')
  refine k _ r' ⟨⟨m,hm.sameBut fS (jz (E.pF x c ec).2),λj y q ej eq=>?_⟩,tJ,λnm c' e=>⟨?_,(cells nm c' e).2⟩⟩ (aN.go g _ _ hv) g
  ·rcases MQ eq with⟨rfl,rfl⟩|⟨dJ,eq⟩
   ·rw[hx]at ej;obtain rfl:=so ej
    exact⟨v,aN.go g _ _ hv,.inr ⟨.inl hk,c,ec,n9⟩⟩
   ·have DD:y≠x:=λz=>dJ (V.inj _ _ _ ej (z▸hx))
    refine ay (vS j y q ej eq) ?_;intro w hw kk;refine⟨w,aN.go g _ _ hw,kk.imp id λ⟨a,c',b,d⟩=>⟨a,c',b,?_⟩⟩;exact d.sameBut fS (λz=>DD (E.apart _ _ _ (z▸b) ec))
  ·by_cases hn:nm=x
   ·subst hn;rw[ec]at e;obtain rfl:=so e;exact⟨_,n9⟩
   ·(refine aM ((cells nm c' e).1) ?_;intro w hw)
    exact⟨w,hw.sameBut fS (λz=>hn (E.apart _ _ _ (z▸e) ec))⟩
end
end
section
noncomputable def chars(x:Str):List PV:=x.cps.toList.map λc=> .str ⟨#[c]⟩
noncomputable def tF:Option aF->Option (List PV)
 |some (.list ps)=>ae ps
 |some (.fB _ xs)=>ae (xs.map λx=>x.1.pv)
 |_=>ai
noncomputable def itemsOf(H:HP):PV->Option (List PV)
 |.tup ps=>ae ps
 |.lst ps=>ae ps
 |.eh n=>ae ((bw n).map λ(i:Nat)=>PV.int (i7 i))
 |.str x=>ae (chars x)
 |.ak l=>tF (H.get l)
 |_=>ai
theorem K9{P:Prop}(e:tF o=ae xs)(k1:o=ae (.list xs)->P)(k2:∀a ps,o=ae (.fB a ps)->xs=ps.map (λx=>x.1.pv)->P):P:=by
 cases o with
 |none=>exact ns e
 |some po=>cases po<;>first|exact ns e|exact k1 (congrArg (λz=>ae (aF.list z)) (so e))|exact k2 _ _ rfl (so e).symm
def eT(H:HP)(β:bz)(h:Heap)(I:aL)(i:Nat):PV->Prop
 |.tup ps=>∃a,a≠I/\h.IsTupleIter I a i/\aN β h (.tup ps) (.ref a)
 |.lst ps=>∃a,a≠I/\h.IsListIter I a i/\aN β h (.lst ps) (.ref a)
 |.eh n=>IsRangeIter h I (0+(i:Nat)*1) ((n:Int) - (i:Nat)) 1
 |.str x=>∃t,h.IsStrIter I "str_ascii_iterator" x t i\/h.IsStrIter I "str_iterator" x t i
 |.ak l=>∃a,β l=ae a/\a≠I/\match H.get l with
  |some (.list _)=>h.IsListIter I a i
  |some (.fB o xs)=>∃es ep,o.data=.dict es ep/\h.IsKeyIter I a i xs.length ep
  |_=>False
 |_=>False
def K8(o:Obj):Prop:=∃c xs,o.cls=.type c/\o.data=.fields xs/\c∈["list_iterator","tuple_iterator","range_iterator","str_ascii_iterator","str_iterator","dict_keyiterator"]
theorem abJ{o:Obj}(h:K8 o):¬to o:=by
 refine kC h ?_;clear h;intro c xs e d m;rintro(⟨ys,n,d'⟩|⟨ys,c',d'⟩)
 ·rw[d]at d';exact jw (noConfusion_of_Nat uv d')
 ·rw[e]at c';obtain rfl:=agL c';simp at m
set_option tactic.hygienic true in
theorem eT.cls{I:aL}{p:PV}(x:eT H β h I i p):∃o,h.get? I=ae o/\K8 o:=by
 cases p<;>(try exact x.elim)
 case tup ps=>(refine cb x ?_;clear x;intro a aj aB aS;refine cb aB ?_;clear aB;intro o ho hc hd);exact⟨o,ho,_,_,hc,hd,.tail _ (.head _)⟩
 case lst ps=>(refine cb x ?_;clear x;intro a aj aB aS;refine cb aB ?_;clear aB;intro o ho hc hd);exact⟨o,ho,_,_,hc,hd,.head _⟩
 case eh n=>exact⟨_,x,_,_,rfl,rfl,.tail _ (.tail _ (.head _))⟩
 case str x'=>
  refine aM x ?_;clear x;intro t aj;rcases aj with⟨o,ho,hc,hd⟩|⟨o,ho,hc,hd⟩
  ·exact⟨o,ho,_,_,hc,hd,.tail _ (.tail _ (.tail _ (.head _)))⟩
  ·exact⟨o,ho,_,_,hc,hd,.tail _ (.tail _ (.tail _ (.tail _ (.head _))))⟩
 case ak l=>
  refine cb x ?_;clear x;intro a e aj k;split at k
  ·(refine cb k ?_;clear k;intro o ho hc hd);exact⟨o,ho,_,_,hc,hd,.head _⟩
  ·(refine cZ k ?_;clear k;intro es ep aj aB;refine cb aB ?_;clear aB;intro o ho hc hd);exact⟨o,ho,_,_,hc,hd,.tail _ (.tail _ (.tail _ (.tail _ (.tail _ (.head _)))))⟩
  ·exact k.elim
def cD(H H':HP):PV->Prop
 |.ak l=>H'.get l=H.get l
 |_=>True
theorem cD.refl{p:PV}:cD H H p:=by cases p<;>first|trivial|rfl
theorem cD.back{H1:HP}{p:PV}(hc:cD H0 H' p)(hk:cD H0 H1 p):cD H1 H' p:=by
 cases p<;>first|trivial|exact(hc:H'.get _=H0.get _).trans (hk:H1.get _=H0.get _).symm
set_option tactic.hygienic true in
theorem Ld{p:PV}(h:cD H H' p):itemsOf H' p=itemsOf H p:=by
 cases p<;>first|rfl|skip
 rename_i l
 refine(?_:tF (H'.get l)=tF (H.get l));refine aa (h ..) ?_;rfl
set_option tactic.hygienic true in
theorem eT.go{T:aL->Prop}{I:aL}{p:PV}(g:Go T β az h h')(hT:¬T I)(hn:∀l,β l≠ae I)(hk:cD H H' p)(x:eT H β h I i p):eT H' az h' I i p:=by
 refine ay x.cls ?_;intro oi oj aj;have ki:h'.get? I=ae oi:=g.keep I oi oj hT (λl _=>hn l);cases p<;>(try exact x.elim)
 case tup ps=>(refine cb x ?_;clear x;intro a na aj v;refine ay aj ?_;clear aj;intro o ho k);rw[oj]at ho;obtain rfl:=so ho;exact⟨a,na,⟨oi,ki,k⟩,aN.go g _ _ v⟩
 case lst ps=>(refine cb x ?_;clear x;intro a na aj v;refine ay aj ?_;clear aj;intro o ho k);rw[oj]at ho;obtain rfl:=so ho;exact⟨a,na,⟨oi,ki,k⟩,aN.go g _ _ v⟩
 case eh n=>exact g.keep I _ x hT (λl _=>hn l)
 case str x'=>
  refine aM x ?_;clear x;intro t aj;rcases aj with⟨o,ho,k⟩|⟨o,ho,k⟩
  ·rw[oj]at ho;obtain rfl:=so ho;exact⟨t,.inl ⟨oi,ki,k⟩⟩
  ·rw[oj]at ho;obtain rfl:=so ho;exact⟨t,.inr ⟨oi,ki,k⟩⟩
 case ak l=>
  refine cb x ?_;clear x;intro a e na k;refine⟨a,g.sub _ _ e,na,?_⟩;refine aa (hk ..) ?_;split at k
  ·(refine ay k ?_;clear k;intro o ho k);rw[oj]at ho;obtain rfl:=so ho;exact⟨oi,ki,k⟩
  ·(refine cZ k ?_;clear k;intro es ep d aj;refine ay aj ?_;clear aj;intro o ho k);rw[oj]at ho;obtain rfl:=so ho;exact⟨es,ep,d,oi,ki,k⟩
  ·exact k.elim
section
variable{X:Fx}{A:bG}{p:PV}
theorem MF{n:Nat}(h:n<2^31):Builtin.Range.small 0 n 1=ag:=small_one (by decide) (by decide) (Sc) (Sm h)
set_option tactic.hygienic true in
theorem wa(hs:3<=X.base.objs.size)(r:aW X β H s)(x:aN β s.heap p v)(e:itemsOf H p=ae xs)
 (k:∀o,aW X β H {s with heap:=s.heap.push o}->eT H β (s.heap.push o) s.heap.objs.size 0 p->P (.ref s.heap.objs.size) {s with heap:=s.heap.push o}):Wp X A (pf v) P s:=by
 have up:∀(o:Obj) (b:aL) (q:Obj),s.heap.get? b=ae q->(s.heap.push o).get? b=ae q:=λo b q e=>cv _ e;have rr:∀o,aW X β H {s with heap:=s.heap.push o}:=λo=>r.grow (tk:=s.toks) (up o) (by rewrite[dI];exact gQ);have gg:∀o,Go bO β β s.heap (s.heap.push o):=λo=>Go.of_keep (up o) (by rewrite[dI];exact gQ);cases p<;>try exact ns e
 case tup ps=>
  have x':=x;rcases x with⟨a,vs,n,rfl,ho,nl,rv⟩
  exact wpAny_pyIter_tuple (zA ho) (k _ (rr _) ⟨a,dN (cq ho),⟨_,dw _ rfl,rfl,rfl⟩,aN.go (gg _) _ _ x'⟩)
 case lst ps=>
  have x':=x;rcases x with⟨a,vs,n,rfl,ho,nl,rv⟩
  exact uG (im ho) (k _ (rr _) ⟨a,dN (cq ho),⟨_,dw _ rfl,rfl,rfl⟩,aN.go (gg _) _ _ x'⟩)
 case eh n=>
  refine wR x ?_;clear x;rintro a t u w rfl aB;refine eB aB ?_;clear aB;intro ho nl hn;refine wpAny_pyIter_range ho (MF hn) ?_;refine k _ (rr _) ?_;refine(?_:(s.heap.push _).get? _=_);have e1:Builtin.Range.rangeSize 0 (n:Int) 1=n:=by rewrite[rangeSize_one];split<;>(first|exact HE|exact HF (by assumption))
  refine aa (e1 ..) ?_;refine aa (dw _ rfl ..) ?_;rfl
 case str x'=>
  refine aM x ?_;clear x;rintro t rfl;cases ha:x'.cps.all (·<128)
  ·exact wpAny_pyIter_wide ha (k _ (rr _) ⟨t,.inr ⟨_,dw _ rfl,rfl,rfl⟩⟩)
  ·exact wpAny_pyIter_ascii ha (k _ (rr _) ⟨t,.inl ⟨_,dw _ rfl,rfl,rfl⟩⟩)
 case ak l=>
  refine K9 e (λq=>?_) (λo ps q _=>?_)
  ·rcases(iH (ps:=xs) r x (DW q))with⟨a,vs,n,rfl,ho,rv⟩
   refine cb x ?_;clear x;intro a' e1 e2 aj
   obtain rfl:=oZ e1;exact uG (im ho) (k _ (rr _) ⟨a,e2,dN (cq ho),by refine aa (q ..) ?_;exact⟨_,dw _ rfl,rfl,rfl⟩⟩)
  ·(refine ay x ?_;clear x;rintro a rfl aB;refine aK aB ?_;clear aB;intro e2 aS)
   rcases(r.obj l _ q)with⟨a',o',e3,e4,e5,ys,hd,he,hl⟩
   rw[e2]at e3;obtain rfl:=so e3;subst e5;refine kC hd ?_;clear hd;intro es ep hx tr tB;have hlen:ps.length=ys.length:=he.length.symm;exact wpAny_pyIter_dict (knd:=fv X.prog X.w) (qg hs r e2) ⟨o',es,e4,hx,tr,tB⟩ (k _ (rr _) ⟨a,e2,dN (cq e4),by
    refine aa (q ..) ?_;exact⟨es,ep,tr,_,dw _ rfl,rfl,by refine aa (hlen ..) ?_;rfl⟩⟩)
theorem Na{I:aL}(r:aW X β H s)(hI:∀l,β l≠ae I)(hb:X.base.objs.size<=I)(zp:∀o,s.heap.get? I=ae o->¬to o)(bW:s.heap.objs.size<=h'.objs.size)(hk:∀b o,b∉[I]->s.heap.get? b=ae o->h'.get? b=ae o):
 aW X β H {s with heap:=h',toks:=tk}/\Go (λa=>a=I) β β s.heap h':=by
 have g:Go (λa=>a=I) β β s.heap h':=⟨λU U e=>e,λU U e=> .inl e,λb o e t U=>hk b o (by simpa using t) e,λb o e hd U=>hk b o (by simp only[eR];rintro rfl;exact zp o e hd) e,bW⟩
 refine⟨r.keep (s':={s with heap:=h',toks:=tk}) g (λa t=>t▸hb) (λi a e t=>(hI _ (t▸e)).elim) rfl rfl λl a hp e=>?_,g⟩;cases q:H.get l with
 |none=>rw[r.gU l hp q]at e;exact ns e
 |some po=>rcases(r.obj l po q)with⟨a',o,e',ho,_⟩;rw[e']at e;obtain rfl:=(so e).symm;exact(hk _ _ (by simp only[eR];rintro rfl;exact hI l e') ho).trans ho.symm
set_option tactic.hygienic true in
theorem zY{I:aL}{P:Option Value->aV->Prop}(hh:A.handled=ai)(r:aW X β H s)(e:itemsOf H p=ae xs)(it:eT H β s.heap I i p)(hi:i<=xs.length)(hI:∀l,β l≠ae I)(hb:X.base.objs.size<=I)
 (k1:∀q v h' tk,xs[i]? =ae q->aW X β H {s with heap:=h',toks:=tk}->Go (λa=>a=I) β β s.heap h'->aN β h' q v->eT H β h' I (i+1) p->P (ae v) {s with heap:=h',toks:=tk})
 (k0:∀h' tk,xs.length=i->aW X β H {s with heap:=h',toks:=tk}->Go (λa=>a=I) β β s.heap h'->P ai {s with heap:=h',toks:=tk}):Wp X A (nU (.ref I)) P s:=by
 refine ay it.cls ?_;intro oi oj Zw;have zp:∀o,s.heap.get? I=ae o->¬to o:=λo e=>by rw[oj]at e;obtain rfl:=so e;exact abJ Zw
 have main:∀(fp:List aL) (n:Nat) (Pp:Nat->Value->Prop) (St:Nat->Heap->Prop),Walks X.prog X.w A I fp [I] n Pp St->n=xs.length->St i s.heap->
  (∀v h',i<n->Pp i v->∀(g:Go (λa=>a=I) β β s.heap h'),∃q,xs[i]? =ae q/\(St (i+1) h'->aN β h' q v/\eT H β h' I (i+1) p))->Wp X A (nU (.ref I)) P s:=by
  intro fp n Pp St W hn st hv;rcases AO i n with bo|ZV
  ·refine jt (W.item i s _ FF bo st λv h' tk hp eU hk bW=>?_)
   refine aK (Na (tk:=tk) r hI hb zp bW hk) ?_;intro r' g;refine ay (hv v h' bo hp g) ?_;intro q e1 e2;exact k1 q v h' tk e1 r' g (e2 eU).1 (e2 eU).2
  ·have:i=n:=SR hi hn ZV
   subst this;refine jt (W.done s _ FF st λh' tk hk bW=>?_);refine aK (Na (tk:=tk) r hI hb zp bW hk) ?_;intro r' g;exact k0 h' tk hn.symm r' g
 cases p<;>(try exact it.elim)
 case tup ps=>
  obtain rfl:=(so e).symm;refine cb it ?_;clear it;intro a na hit hv
  have eA:=hv;rcases hv with⟨a',vs,n,e1,ho,nl,rv⟩
  obtain rfl:=oZ e1;refine main _ _ _ _ (Walks.tuple hh I a na (bT vs)) (by simp[rv.length]) ⟨hit,zA ho⟩ λv h' rC hp g=>?_;have il:vs[i]? =ae v:=by simpa using hp
  have bo:i<xs.length:=by have:=(bJ.mp il).1;rw[rv.length]at this;exact this
  refine ay (rv.get (bV bo)) ?_;intro v2 e2 r2;rw[il]at e2;obtain rfl:=so e2;exact⟨_,bV bo,λst=>⟨aN.go g _ _ r2,a,na,st.1,aN.go g _ _ eA⟩⟩
 case lst ps=>
  obtain rfl:=(so e).symm;refine cb it ?_;clear it;intro a na hit hv
  have eA:=hv;rcases hv with⟨a',vs,n,e1,ho,nl,rv⟩
  obtain rfl:=oZ e1;refine main _ _ _ _ (uz hh I a na (bT vs)) (by simp[rv.length]) ⟨hit,im ho⟩ λv h' rC hp g=>?_;have il:vs[i]? =ae v:=by simpa using hp
  have bo:i<xs.length:=by have:=(bJ.mp il).1;rw[rv.length]at this;exact this
  refine ay (rv.get (bV bo)) ?_;intro v2 e2 r2;rw[il]at e2;obtain rfl:=so e2;exact⟨_,bV bo,λst=>⟨aN.go g _ _ r2,a,na,st.1,aN.go g _ _ eA⟩⟩
 case eh n=>
  obtain rfl:=so e;refine main _ _ _ _ (Walks.range hh I 0 1 n) (by simp) it λv h' rC hp g=>?_;refine aM hp ?_;clear hp;rintro t rfl;exact⟨.int (i7 i),by simp[rC],λst=>⟨⟨t,by congr 1;show(0:Int)+(i:Int)*1=(i:Int);exact S0⟩,st⟩⟩
 case str x'=>
  obtain rfl:=so e;refine aM it ?_;clear it;intro t aj;rcases aj with hit|hit
  ·refine main _ _ _ _ (Walks.strAscii hh I x' t) (by simp[chars]) hit λv h' rC hp g=>?_
   refine cZ hp ?_;clear hp;rintro c u e1 rfl;exact⟨.str ⟨#[c]⟩,by simp[chars,e1],λst=>⟨⟨u,rfl⟩,t,.inl st⟩⟩
  ·refine main _ _ _ _ (Walks.strWide hh I x' t) (by simp[chars]) hit λv h' rC hp g=>?_
   refine cZ hp ?_;clear hp;rintro c u e1 rfl;exact⟨.str ⟨#[c]⟩,by simp[chars,e1],λst=>⟨⟨u,rfl⟩,t,.inr st⟩⟩
 case ak l=>
  refine cb it ?_;clear it;intro a ea na k;refine K9 e (λq=>?_) (λo ps q ex=>?_)
  ·rw[q]at k
   rcases(iH (ps:=xs) r (qa (HP.cS q) ea) (DW q))with⟨a',vs,n,e1,ho,rv⟩
   obtain rfl:=oZ e1;refine main _ _ _ _ (uz hh I a na (bT vs)) (by simp[rv.length]) ⟨k,im ho⟩ λv h' rC hp g=>?_;have il:vs[i]? =ae v:=by simpa using hp
   have bo:i<xs.length:=by have:=(bJ.mp il).1;rw[rv.length]at this;exact this
   refine ay (rv.get (bV bo)) ?_;intro v2 e2 r2;rw[il]at e2;obtain rfl:=so e2;exact⟨_,bV bo,λst=>⟨aN.go g _ _ r2,a,ea,na,by refine aa (q ..) ?_;exact st.1⟩⟩
  ·subst ex
   rw[q]at k;refine cZ k ?_;clear k;intro es ep tr hit;rcases(r.obj l _ q)with⟨a',o',e3,e4,e5,ys,hd,he,hl⟩
   rw[ea]at e3;obtain rfl:=so e3;subst e5;refine kC hd ?_;clear hd;intro bI fi hx Kd tB;rw[tr]at Kd;(refine aK (agH Kd) ?_;rintro rfl rfl);have hlen:ps.length=ys.length:=he.length.symm
   have aab:=he.keys;refine main _ _ _ _ (Walks.dictKeys (knd:=fv X.prog X.w) hh I a na ys ep) (by simp[hlen]) ⟨by refine aQ (hlen ..) ?_;exact hit,⟨o',es,e4,hx,tr,tB⟩⟩ λv h' rC hp g=>?_;refine cZ hp ?_;clear hp;intro key x e6 e7;refine⟨key.pv,?_,λst=>⟨aek e7,a,ea,na,by refine aa (q ..) ?_;exact⟨es,ep,tr,by refine aa (hlen ..) ?_;exact st.1⟩⟩⟩;have:(ys.map (·.1))[i]? =ae key:=by simp[e6]
   rw[aab]at this;simp only[dB,i9]at this⊢;refine ay this ?_;clear this;intro z z1 z2;exact⟨z,z1,by(refine aa (z2 ..) ?_;rfl)⟩
end
end
section
inductive sO(X:Fx)(env:Env)(vm:Vm)(β:bz)(h:Heap)(Q:aJ->HP->Prop)(s':aV):Prop
 |mk (az:bz) (H':HP) (aU:aJ) (r:aW X az H' s') (rf:di X env vm az aU s') (g:Go (fn env) β az h s'.heap) (q:Q aU H')
def nX(X:Fx)(n:Nat)(env:Env)(vm:Vm)(f:Value->eL Unit)(p:PV)(ρ:aJ)(H:HP)(Q:aJ->HP->Prop):Prop:=
 ∀A β s v,cE n A->aW X β H s->di X env vm β ρ s->aN β s.heap p v->Wp X A (f v) (λU s'=>sO X env vm β s.heap Q s') s
noncomputable abbrev mX(X:Fx)(n:Nat)(env:Env)(vm:Vm)(t:Expr):=nX X n env vm (jB t env)
section
variable{X:Fx}{n:Nat}{p:PV}
structure nW(env:Env)(vm:Vm)(i:Nat)(x:Str):Prop where
 at_:vm.lookup i=ae x
 kind:env.kindOf x=ae .local\/env.kindOf x=ae .cell
theorem Nd(E:et X env)(V:jG env vm)(N:nW env vm i x)(h:QA (aR ρ i p) H):nX X n env vm (storeName env x) p ρ H QA:=by
 intro A β s v ra r rf hv;exact Nf E V N.at_ N.kind r rf hv λs' r' cF U g=>⟨β,H,_,r',cF,g.weak λU t=>t.1,h⟩
theorem afA(E:et X env)(V:jG env vm)(N:nW env vm i x)(h:QA (aR ρ i p) H):nX X n env vm (bindName env x) p ρ H QA:=
 λA β s v ra r rf hv=>wpAny_bindName (Nd E V N h A β s v ra r rf hv)
theorem uU(E:et X env)(V:jG env vm)(N:nW env vm i x)(h:QA (aR ρ i p) H):mX X n env vm (.Name x pos) p ρ H QA:=
 λA β s v ra r rf hv=>Px (Nd E V N h A β s v ra r rf hv)
noncomputable def jH:List (At×PV)->At->PV->List (At×PV)
 |[],a,p=>[(a,p)]
 |(b,q)::r,a,p=>if b=a then(b,p)::r else(b,q)::jH r a p
theorem gy.length:∀{xs:List (At×PV)} {es:List hX},gy β h xs es->es.length=xs.length:=by
 intro xs;induction xs with
 |nil=>
  intro _ e;refine aa ((show _=([]:List hX)from e) ..) ?_;rfl
 |cons _ _ ih=>
  intro _ dW;rcases dW with⟨_,_,_,_,e,_,r⟩
  refine aa (e ..) ?_;refine aa (dX ..) ?_;refine aa (dX ..) ?_;refine aa (ih r ..) ?_;rfl
theorem gy.put{a:At}{p:PV}{pS:Int}{tk:iw}(y:aN β h p v):∀{xs:List (At×PV)} {es:List hX},gy β h xs es->gy β h (jH xs a p) (putL a.str pS (.str a.str tk) v es):=by
 intro xs;induction xs with
 |nil=>
  intro _ e;refine aa ((show _=([]:List hX)from e) ..) ?_;exact⟨_,_,_,_,rfl,y,rfl⟩
 |cons dP xs ih=>
  rcases dP with⟨b,q⟩
  intro _ dW;rcases dW with⟨hs,t,w,bI,e,x,r⟩
  refine aa (e ..) ?_;by_cases hk:b=a
  ·subst hk
   refine aa ((show jH ((b,q)::xs) b p=(b,p)::xs from if_pos rfl) ..) ?_;refine aa ((show putL b.str pS (.str b.str tk) v (⟨hs,.str b.str t,w⟩::bI)=⟨hs,.str b.str t,v⟩::bI from if_pos (beq_self_eq_true b.str)) ..) ?_;exact⟨_,_,_,_,rfl,y,r⟩
  ·(refine aa ((show jH ((b,q)::xs) a p=(b,q)::jH xs a p from if_neg hk) ..) ?_;refine aa ((show putL a.str pS (.str a.str tk) v (⟨hs,.str b.str t,w⟩::bI)=⟨hs,.str b.str t,w⟩::putL a.str pS (.str a.str tk) v bI from if_neg λe=>ff ((Nj hk).symm.trans e)) ..) ?_)
   exact⟨_,_,_,_,rfl,x,ih r⟩
theorem gy.noRef:∀{xs:List (At×PV)} {es:List hX},gy β h xs es->es.any (·.refKey)=aq:=by
 intro xs;induction xs with
 |nil=>
  intro _ e;refine aa ((show _=([]:List hX)from e) ..) ?_;rfl
 |cons _ _ ih=>
  intro _ dW;rcases dW with⟨_,_,_,_,e,_,r⟩
  (refine aa (e ..) ?_;refine aa (oQ ..) ?_;refine aa (ih r ..) ?_);rfl
theorem VQ:∀(xs:List (At×PV)) (a:At) (p:PV),(jH xs a p).length<=xs.length+1:=by
 intro xs;induction xs with
 |nil=>
  intro _ _;exact bR rfl
 |cons dP r ih=>
  rcases dP with⟨b,q⟩
  intro a p;unfold jH;split
  ·simp
  ·have:=ih a p;simp;exact S7 this
def oH(po:PV)(a:At)(v:PV)(H:HP)(k:HP->Prop):Prop:=match po with
 |.ak l=>match H.get l with
  |some (.inst C d)=>match H.get d with
   |some (.attrs xs)=>xs.length<=30/\k (H.set (.attrs (jH xs a v)) d)
   |_=>False
  |_=>False
 |_=>False
theorem MP{po:PV}{a:At}{v:PV}{k:HP->Prop}(h:oH po a v H k):∃l C d xs,po=.ak l/\H.get l=ae (.inst C d)/\H.get d=ae (.attrs xs)/\xs.length<=30/\k (H.set (.attrs (jH xs a v)) d):=by
 cases po with
 |ak l=>
  refine t7 (Mi (f:=λU d xs=>xs.length<=30/\k (H.set (.attrs (jH xs a v)) d)) h) ?_;intro C d xs e1 e2 h;exact⟨l,C,d,xs,rfl,e1,e2,h⟩
 |_=>exact h.elim
theorem aeA{d:cr}{C:Cl}{xs:List (At×PV)}{a:At}{v:PV}{k:HP->Prop}(e1:H.get l=ae (.inst C d))(e2:H.get d=ae (.attrs xs))(h:xs.length<=30/\k (H.set (.attrs (jH xs a v)) d)):oH (.ak l) a v H k:=by
 refine(?_:Mh H (H.get l) λU d xs=>xs.length<=30/\k (H.set (.attrs (jH xs a v)) d));refine aa (e1 ..) ?_;refine(?_:(match H.get d with|some (.attrs xs)=>xs.length<=30/\k (H.set (.attrs (jH xs a v)) d)|_=>False));refine aa (e2 ..) ?_;exact h
theorem aeB{A:bG}{po:PV}{ov:Value}{a:At}{P:Unit->aV->Prop}(O:cj X)(r:aW X β H s)(x:aN β s.heap po ov)(y:aN β s.heap p v)
 (h:oH po a p H λH'=>∀h' tk,aW X β H' {s with heap:=h',toks:=tk}->Go bO β β s.heap h'->P () {s with heap:=h',toks:=tk}):Wp X A (setAttr ov a.str v) P s:=by
 refine wR (MP h) ?_;rintro l C d xs rfl aB;refine mJ aB ?_;clear aB;intro e1 e2 hz h;rcases(DK r x e1 e2)with⟨b,dx,es,n',rfl,hb,hd,ho,ha,I,_⟩
 have k:=r.K O;have k1:X.K.In ({s with toks:=s.toks+1}:aV).heap:=k;refine set_plain k I (O.get C).2.2.1 ?_;refine osa_open (s:={s with toks:=s.toks+1}) k I (O.get C).2.2.2.1 (O.attr C a).2 λbb=>?_;refine ay (any_some (O.get C).2.1) ?_;intro cd hc fI;have hx:s.heap.get? b=ae (pa C.addr dx):=I.at_;refine ax (aP (ax (ax (wpAny_loadPart (s:={s with toks:=s.toks+1}) hx (ax ((looks_clsIn k1 hc).here ?_))))));refine aa (fI ..) ?_;refine aP (a:=ae dx) (ax (aP (ax ?_)));unfold nsSet;refine ax (ax (xJ (aP (ax (uF (ax (wpAny_loadPart (s:={s with toks:=s.toks+2}) ho ?_)))))));have c:(!es.toArray.any (·.key.isStr a.str)&&es.toArray.any (·.refKey))=aq:=by
  rewrite[Bool.and_eq_false_iff];right;simpa using ha.noRef
 dsimp only
 (rewrite[aRefKeyMayBeTheName_at];refine aa (c ..) ?_)
 have e':=putName_dict a.str (uw X.w.params a.str) (.str a.str (s.toks+1)) v es n';have kZ:(s.heap.update dx (Gu a.str (uw X.w.params a.str) (.str a.str (s.toks+1)) v)).get? dx=ae (dictOf (putL a.str (uw X.w.params a.str) (.str a.str (s.toks+1)) v es) (putN a.str es n')):=by
  refine aQ (e' ..) ?_;exact nP _ ho (by refine aa (e' ..) ?_;rfl)
 have gm:jW dx s.heap (s.heap.update dx (Gu a.str (uw X.w.params a.str) (.str a.str (s.toks+1)) v)):=ja ..;refine wpAny_updatePart (s:={s with toks:=s.toks+2}) ho ?_;have hlen:(jH xs a p).length<=40:=by have:=VQ xs a p;exact Tg hz this
 have g:Go bO β β s.heap (s.heap.update dx (Gu a.str (uw X.w.params a.str) (.str a.str (s.toks+1)) v)):=Go.pZ (HP.cS e2) hd gm
 have pP:=gy.put (a:=a) (pS:=uw X.w.params a.str) (tk:=s.toks+1) y ha;refine ax (wpAny_lookBehind kZ (pastItsLine_dict (by(refine aa (fu ..) ?_;refine aa (pP.length ..) ?_;refine aa (lC ..) ?_);exact Tu hlen)) ?_);exact aP (h _ _ (r.set (tk:=s.toks+2) (HP.cS e2) hd gm kZ ⟨_,_,rfl,pP.go g,hlen⟩) g)
theorem VU{o:Expr}{a:At}(O:cj X)(h:bg X n env vm o ρ H λpo H1=>oH po a p H1 λH2=>QA ρ H2):mX X n env vm (.Attribute o a.str pos) p ρ H QA:=by
 intro A β s v ra r rf hv;show Wp X A (do
  let ov<-fb [v] (bU o env)
  gx pos.atName
  fb [v,ov] (setAttr ov a.str v)
  release [v,ov] []) _ s
 refine ax (cU (h.run ra r rf λpo ov az H' s' r' cF vr g q=>?_));refine ax (fF (ax (cU (aeB O r' vr (aN.go g _ _ hv) ?_))));refine wR (MP q) ?_;rintro l C d xs rfl aB;refine mJ aB ?_;clear aB;intro e1 e2 hz q;exact aeA e1 e2 ⟨hz,λh' tk r2 g2=>GV ⟨az,_,ρ,r2,cF.go g2 (ny env),(g.trans g2).toT,q⟩⟩
theorem aeC{A:bG}{E:Value->aV->Prop}{l:aL}{k:Int}{t:iw}{Q:Unit->aV->Prop}(ho:s.heap.get? l=ae ⟨.type "list",ai,.seq items m,#[]⟩)
 (h0:0<=k)(Kk:k<2^63)(hn:k<items.size)
 (hQ:∀h' m',h'.get? l=ae ⟨.type "list",ai,.seq (items.setIfInBounds k.toNat v) m',#[]⟩->jW l s.heap h'->Q () {s with heap:=h'}):bm (bN prog w) A (xD (.ref l) (.int k t) v) Q E s:=by
 have hl:s.heap.IsList l items:=⟨_,ho,rfl,m,rfl⟩
 unfold xD;refine cU (ax (wpAny_sequenceKey hl.typeIs (by decide) ?_));refine ax (Py (name:=mU "__setitem__") hl.typeIs Pv
  (qR Pv hl.typeIs entry_list_setitem ?_ (args_list_setitem _ _ _)))
 refine(?_:bm _ _ (Builtin.List.listSubscript? (.int k t)>>=_) _ _ s);refine ax (wpAny_listSubscript_int (fitsIndex_of h0 Kk) ?_);clear Kk;refine aM (N0 h0) ?_;rintro j rfl;have hj:j<items.size:=TD hn;refine(?_:bm _ _ ((seqItemAt l j>>= λr=>pure (r.map (j,·)))>>=_) _ _ s);refine ax (ax (wpAny_seqItemAt ho rfl (aP ?_)));refine aa (((FA hj)) ..) ?_;refine(?_:bm _ _ (setSeqItemAt l j v>>=_) _ _ s);refine ax (wpAny_setSeqItemAt ho rfl ?_);exact aP ⟨.none,rfl,aP (hQ _ _ (nP _ ho rfl) (ja ..))⟩
def jo(po q v:PV)(H:HP)(k:HP->Prop):Prop:=match po with
 |.ak l=>match H.get l with
  |some (.list xs)=>match q with
   |.int i=>(0<=i/\i.toNat<xs.length)/\k (H.set (.list (xs.set i.toNat v)) l)
   |_=>False
  |some (.aH xs)=>ok (fO q) λkey=>xs.length<aI/\k (H.set (.aH (dput xs key v)) l)
  |some (.bL xs)=>ok (keyOf q) λkey=>xs.length<aI/\k (H.set (.bL (dput xs key v)) l)
  |_=>False
 |_=>False
theorem fM.stored{X:Fx}{k:List Atom}{a:aL}{p:PV}(x:aN β h p v)(y:aN β h (.tup (k.map Atom.pv)) (.ref a)){xs:List (List Atom×PV)}(e:fM X β h xs ys):fM X β h (dput xs k p) (storedH ys k a v):=by
 have Zg:(xs.any λx=>decide (x.1=k))=(mW ys k).isSome:=by
  clear x y;induction xs generalizing ys with
  |nil=>refine aa ((show ys=[]from e) ..) ?_;rfl
  |cons z r ih=>
   rcases e with⟨a',v',d7,rfl,_,_,e'⟩
   by_cases hk:z.1=k
   ·(refine aa ((show mW ((z.1,a',v')::d7) k=ae (a',v')from te hk) ..) ?_;refine aa (oQ ..) ?_;refine aa (decide_eq_true hk ..) ?_);rfl
   ·(refine aa ((show mW ((z.1,a',v')::d7) k=mW d7 k from tf hk) ..) ?_;refine aa (oQ ..) ?_;refine aa (decide_eq_false hk ..) ?_);exact ih e'
 have m:∀{xs:List (List Atom×PV)} {ys:List (List Atom×aL×Value)},fM X β h xs ys->fM X β h (xs.map λx=>if x.1=k then(x.1,p)else x) (ys.map (putAt k v)):=by
  intro xs;induction xs with
  |nil=>intro ys e;refine aa ((show ys=[]from e) ..) ?_;exact rfl
  |cons z r ih=>
   intro ys e;rcases e with⟨a',v',d7,e,u1,u2,e'⟩
   refine aa (e ..) ?_;refine aa (bB ..) ?_;refine aa (bB ..) ?_;by_cases hk:z.1=k
   ·(refine aa (if_pos hk ..) ?_;refine aa ((show putAt k v (z.1,a',v')=(z.1,a',v)from if_pos hk) ..) ?_);exact⟨a',v,_,rfl,x,u2,ih e'⟩
   ·(refine aa (if_neg hk ..) ?_;refine aa ((show putAt k v (z.1,a',v')=(z.1,a',v')from if_neg hk) ..) ?_);exact⟨a',v',_,rfl,u1,u2,ih e'⟩
 have ap:∀{xs:List (List Atom×PV)} {ys:List (List Atom×aL×Value)},fM X β h xs ys->fM X β h (xs++[(k,p)]) (ys++[(k,a,v)]):=by
  intro xs;induction xs with
  |nil=>intro ys e;refine aa ((show ys=[]from e) ..) ?_;exact⟨a,v,[],rfl,x,y,rfl⟩
  |cons z r ih=>
   intro ys e;rcases e with⟨a',v',d7,e,u1,u2,e'⟩
   refine aa (e ..) ?_;exact⟨a',v',_,rfl,u1,u2,ih e'⟩
 unfold dput storedH;refine aa (Zg ..) ?_;split
 ·exact m e
 ·exact ap e
theorem bf.aez{p:PV}{ps:List PV}(x:aN β h p v)(n:Nat)(y:bf β h ps vs):bf β h (ps.set n p) ((bT vs).setIfInBounds n v).toList:=by
 simpa using bf.set x n y
theorem Jb{X:Fx}{d:aL}{xs:List (List Atom×PV)}(hm:h'.DictOfH (pi (fv X.prog X.w)) d ys)(he:fM X β h' xs ys)(hz:xs.length<=aI):∃o,h'.get? d=ae o/\iT X β h' (.bL xs) o:=by
 refine NL hm ?_;clear hm;intro o es ep ho hx hd hk aj hn;rcases o with⟨oc,od,ag4,ag6⟩
 refine eB hx ?_;clear hx;intro h1 h2 h3;dsimp only at hd h1 h2 h3;subst hd h1 h2 h3;exact⟨_,ho,es,ep,ys,rfl,hk,hn,he,hz⟩
theorem aeD{A:bG}{po:PV}{ov iv:Value}{P:Unit->aV->Prop}(O:cj X)(ra:cE n A)(r:aW X β H s)(x:aN β s.heap po ov)(z:aN β s.heap q iv)(y:aN β s.heap p v)
 (h:jo po q p H λH'=>∀h' tk,aW X β H' {s with heap:=h',toks:=tk}->Go bO β β s.heap h'->P () {s with heap:=h',toks:=tk}):Wp X A (xD ov iv v) P s:=by
 cases po with
 |ak l=>
  rcases Mg (o:=H.get l) h with⟨xs,e,h⟩|⟨xs,e,h⟩|⟨xs,e,h⟩
  ·(refine ay (uV (q:=q) (f:=λi=>(0<=i/\i.toNat<xs.length)/\∀h' tk,aW X β (H.set (.list (xs.set i.toNat p)) l) {s with heap:=h',toks:=tk}->Go bO β β s.heap h'->P () {s with heap:=h',toks:=tk}) (by cases q<;>exact h)) ?_;rintro i rfl aB;refine aK aB ?_;clear aB;intro aS h;refine aK aS ?_;clear aS;intro h0 h1)
   refine cb (id x) ?_;intro a e1 hb aj;rcases(iH (ps:=xs) r x (by show(match H.get l with|some (.list ps)=>ae ps|_=>ai)=ae xs;(refine aa (e ..) ?_;rfl)))with⟨a',vs,m,e2,ho,rv⟩
   rw[e1]at e2;obtain rfl:=oZ e2;rcases(r.obj l _ e)with⟨_,_,e3,_,_,_,_,_,hz⟩
   refine aM z ?_;clear z;rintro t rfl;refine aa (e1 ..) ?_;have hL:aI=1000000:=rfl;have h2:i<1000000:=TL h1 hz hL;refine aeC ho h0 (oP h2 (by decide)) (by simp[rv.length];exact Hn h1) λh' m' dZ hs=>?_;have g:Go bO β β s.heap h':=Go.pZ (HP.cS e) hb hs;have vH:h'.get? a=ae ⟨.type "list",ai,.seq (bT ((bT vs).setIfInBounds i.toNat v).toList) m',#[]⟩:=by exact dZ
   exact h h' s.toks (r.set (tk:=s.toks) (HP.cS e) hb hs vH ⟨_,_,rfl,bf.go g _ _ (bf.aez y _ rv),by simpa using hz⟩) g
  ·rcases(cX h)with⟨k,ek,hz,h⟩
   rcases(rn r x e)with⟨d,ys,rfl,hb,hd,he,_⟩
   rw[rh ek]at z;refine wpAny_setItem_pairs (knd:=fv X.prog X.w) (n0 z) hd (λh' fI hs=>?_) (by have:=he.length;have:=gP;exact uP hz (by assumption) this);have g:Go bO β β s.heap h':=Go.pZ (HP.cS e) hb hs;refine ay (qL.mp fI) ?_;intro o ho ni;exact h h' _ (r.set (tk:=s.toks+1) (HP.cS e) hb hs ho ⟨_,ni,(he.put y).go g,by have:=n6 xs k p;exact ye hz this⟩) g
  ·rcases(cX h)with⟨k,ek,hz,h⟩
   rcases(u9 r x e)with⟨d,ys,rfl,hb,hd,he,_⟩
   rw[zG ek]at z;refine aM (let⟨a,_,_,e,_,_,_⟩:=z;⟨a,e⟩:∃a,iv=.ref a) ?_;rintro ka rfl;refine wpAny_setItem_heap (knd:=pi (fv X.prog X.w)) ra.u1 (rG z) hd (λh' fI hs=>?_) (by
    have:∀{xs:List (List Atom×PV)} {ys:List (List Atom×aL×Value)},fM X β s.heap xs ys->ys.length=xs.length:=by
     intro xs;induction xs with
     |nil=>intro ys e;refine aa ((show ys=[]from e) ..) ?_;rfl
     |cons z r ih=>(intro _;intro aj;rcases aj with⟨_,_,_,rfl,_,_,e'⟩);simp[ih e']
    have:=this he;have:=gP;exact uP hz (by assumption) this)
   have g:Go bO β β s.heap h':=Go.pZ (HP.cS e) hb hs;refine ay (Jb (xs:=dput xs k p) fI ((he.stored y z).go g) (by have:=n6 xs k p;exact ye hz this)) ?_;intro o ho hr;exact h h' _ (r.set (tk:=s.toks+_) (HP.cS e) hb hs ho hr) g
 |_=>exact h.elim
end
end
section
section
variable{X:Fx}{n:Nat}{p:PV}{Q:Fl->aJ->HP->Prop}
theorem up{A:bG}{α:Type}{t:eL α}{P:α->aV->Prop}{E:Value->aV->Prop}(h:Wp X A t P s):bm (bN X.prog X.w) A t P E s:=bP h (λU U x=>x) λU U x=>x.elim
noncomputable def sQ(X:Fx)(n:Nat)(env:Env)(vm:Vm):List (Value->eL Unit)->List PV->aJ->HP->(aJ->HP->Prop)->Prop
 |[],[],ρ,H,Q=>Q ρ H
 |f::fs,p::ps,ρ,H,Q=>nX X n env vm f p ρ H λaU H'=>sQ X n env vm fs ps aU H' Q
 |_,_,_,_,_=>False
theorem sO.trans(g:Go (fn env) β az h h')(x:sO X env vm az h' QA s'):sO X env vm β h QA s':=
 let⟨b,H,ρ,r,rf,g',q⟩:=x;⟨b,H,ρ,r,rf,g.trans g',q⟩
theorem Nh:∀{fs:List (Value->eL Unit)} {ps:List PV} {vs:List Value} {A:bG} {β:bz} {s:aV} {ρ:aJ} {H:HP},sQ X n env vm fs ps ρ H QA->cE n A->aW X β H s->di X env vm β ρ s->bf β s.heap ps vs->
 Wp X A (assignInOrder fs vs) (λU s'=>sO X env vm β s.heap QA s') s:=by
 intro fs;induction fs with
 |nil=>
  intro ps vs A β s ρ H h ra r rf hv;cases ps with
  |nil=>
   refine aa ((show vs=[]from hv) ..) ?_;exact aP ⟨β,H,ρ,r,rf,Go.refl _ _ _,h⟩
  |cons=>exact h.elim
 |cons f fs ih=>
  intro ps vs A β s ρ H h ra r rf hv;cases ps with
  |nil=>exact h.elim
  |cons p ps=>
   rcases hv with⟨v,vs,e,x,hv⟩
   refine aa (e ..) ?_;show Wp X A (do fb vs (f v);assignInOrder fs vs) _ s;refine ax (cU (bP (h A β s v ra r rf x) (λU s' zq=>?_) λU U x=>x));rcases zq with⟨az,H',aU,r',cF,g,q⟩
   exact bP (ih q ra r' cF (bf.go g _ _ hv)) (λU U x=>x.trans g) λU U x=>x
theorem Jf{A:bG}{I:aL}{P:List Value->aV->Prop}(hh:A.handled=ai):∀(k i:Nat) (β:bz) (s:aV),i+k=xs.length->aW X β H s->itemsOf H p=ae xs->eT H β s.heap I i p->(∀l,β l≠ae I)->X.base.objs.size<=I->
 (∀vs h' tk,aW X β H {s with heap:=h',toks:=tk}->Go (λa=>a=I) β β s.heap h'->bf β h' (xs.drop i) vs->eT H β h' I xs.length p->P vs {s with heap:=h',toks:=tk})->
 Wp X A (draw (.ref I) k) P s
 |0,i,β,s,hk,r,e,it,hI,hb,h=>by
  refine aP ?_
  have:=h [] s.heap s.toks r (Go.refl _ _ _) (by refine aa (N9 (T6 hk) ..) ?_;exact .nil) (by refine aQ (hk ..) ?_;exact it);exact this
 |k+1,i,β,s,hk,r,e,it,hI,hb,h=>by
  refine(?_:Wp X A (nU (.ref I)>>=_) P s);refine ax (zY hh r e it (Ug hk) hI hb (λq v h' tk eq r' g vr bY=>?_) (λh' tk z U U=>by omega));refine ax (cU (Jf hh k (i+1) β _ (Uq hk) r' e bY hI hb λvs h2 nF r2 g2 fC dE=>aP ?_));refine h (v::vs) h2 nF r2 (g.trans g2) ?_ dE;have bo:i<xs.length:=Uw hk;refine aa (qz bo ..) ?_;rw[bV bo]at eq
  obtain rfl:=so eq;exact .cons (aN.go g2 _ _ vr) fC
noncomputable def v8:PV->Bool
 |.tup _|.lst _=>ag
 |_=>aq
theorem Go.drop{T:aL->Prop}{I:aL}(g:Go (λa=>T a\/a=I) β az h h')(hI:h.objs.size<=I):Go T β az h h':=
 ⟨g.sub,g.fresh,λa o e t n=>g.keep a o e (λz=>z.elim t λy=>jV _ (iP (cq e) (y▸hI))) n,g.ng,g.size⟩
theorem Go.inr{I:aL}{T:aL->Prop}(g:Go (λa=>a=I) β az h h'):Go (λa=>T a\/a=I) β az h h':=g.weak λU t=> .inr t
theorem Go.inl{I:aL}{T:aL->Prop}(g:Go T β az h h'):Go (λa=>T a\/a=I) β az h h':=g.weak λU t=> .inl t
theorem Go.new{I:aL}(g:Go (λa=>a=I) β az h h')(hI:h.objs.size<=I):Go bO β az h h':=Go.drop (T:=bO) g.inr hI
theorem sa{o:Obj}:Go bO β β h (h.push o):=Go.of_keep (λb q e=>cv _ e) (by rewrite[dI];exact gQ)
theorem Nv{A:bG}{P:List Value->aV->Prop}(O:cj X)(hh:A.handled=ai)(hp:v8 p=ag)(r:aW X β H s)(x:aN β s.heap p v)(e:itemsOf H p=ae xs)
 (k:∀vs h' tk,aW X β H {s with heap:=h',toks:=tk}->Go bO β β s.heap h'->bf β h' xs vs->P vs {s with heap:=h',toks:=tk}):Wp X A (unpackItems v xs.length ai) P s:=by
 unfold unpackItems;have gf:∀{P':Bool->aV->Prop},P' aq s->Wp X A (GK v) P' s:=by
  intro P' hP;cases p<;>try exact ff hp
  ·rcases x with⟨a,vs,n,rfl,ho,_⟩
   unfold GK;refine ax (Bs (T:="tuple") ⟨_,ho,rfl⟩ slot_tuple_iter.lookup ?_);exact aP hP
  ·rcases x with⟨a,vs,n,rfl,ho,_⟩
   unfold GK;refine ax (Bs (T:="list") ⟨_,ho,rfl⟩ slot_list_iter.lookup ?_);exact aP hP
 refine ax (gf ?_);simp only[dF,↓dy,if_false];refine ax (cU (wa O.size r x e λo r1 v9=>?_));have hI:∀l,β l≠ae s.heap.objs.size:=r.mE (bj _);refine ax (cU (Jf hh xs.length 0 β _ (BY) r1 e v9 hI r.lo λvs h2 nF r2 g2 fC dE=>?_));rw[wZ]at fC;have hl:¬vs.length<xs.length:=by refine aa (fC.length ..) ?_;exact BZ
 simp only[hl,↓dy,if_false];refine ax (cU (zY hh r2 e dE (bj _) hI r.lo (λq v h' tk z U U U U=>by simp at z) λh3 tX U r3 g3=>?_));simp only[OR,dF,↓dy,if_false];refine aP (k vs h3 tX r3 ?_ (bf.go g3 _ _ fC));exact Go.drop (T:=bO) ((sa.inl (I:=s.heap.objs.size)).trans ((g2.trans g3).inr)) (bj _)
theorem di.ig(rf:di X env vm β ρ s)(g:Go bO β az s.heap s'.heap):di X env vm az ρ s':=rf.go g (ny env)
theorem VW(O:cj X)(hs:ts.all noStar=ag)(hp:v8 p=ag)(e:itemsOf H p=ae xs)(hl:ts.length=xs.length)
 (h:sQ X n env vm (ts.map λt=>jB t env) xs ρ H QA):mX X n env vm (.Tuple ts k pos) p ρ H QA:=by
 intro A β s v ra r rf hv;have hm:∀{ts:List Expr},ts.all noStar=ag->assignEach ts env=ts.map λt=>(aq,jB t env):=by
  intro ts;induction ts with
  |nil=>intro _;rfl
  |cons t r ih=>
   intro h;rw[AD,mM]at h;refine aa (bB ..) ?_;refine aQ (ih h.2 ..) ?_;cases t<;>first|rfl|exact absurd h.1 dG
 (rewrite[assign_Tuple];refine aa (hm hs ..) ?_)
 refine ax (fF ?_);unfold unpack;have eU:(ts.map λt=>(aq,jB t env)).findIdx? (·.1)=ai:=by
  rewrite[Og];intro x hx;(refine ay (bH.mp hx) ?_;rintro t aj rfl);rfl
 refine aa (eU ..) ?_;rewrite[bp];refine aa (hl ..) ?_;refine ax (cU (Nv O ra.hd hp r hv e λvs h' tk r' g vr=>?_));refine aa (cB ..) ?_;exact bP (Nh h ra r' (rf.ig g) vr) (λU U x=>x.trans g.toT) λU U x=>x
theorem afl(h:Q .next ρ H):iW X n env vm [] ρ H Q:=λA β s ra r rf=>GQ ⟨β,H,ρ,r,rf,Go.refl _ _ _,h⟩
theorem afk{st:fE}{rest:List fE}(h:iX X n env vm st ρ H λfl aU H'=>match fl with|.next=>iW X n env vm rest aU H' Q|.ret p=>Q (.ret p) aU H'):iW X n env vm (st::rest) ρ H Q:=by
 intro A β s ra r rf;refine wpAny_execs_cons (bP (h A β s ra r rf) (λfl s' zq=>?_) λU U x=>x);rcases zq with⟨az,H',aU,r',cF,g,q⟩
 cases fl with
 |next=>exact bP (q A az s' ra r' cF) (λU U x=>x.trans g) λU U x=>x
 |ret v=>exact⟨az,H',aU,r',cF,g,q⟩
 |brk=>exact q.elim
 |cont=>exact q.elim
theorem iV.mono{Q R:Fl->aJ->HP->Prop}{fl:Flow}(x:iV X env vm β h Q fl s')(i:∀fl ρ H,Q fl ρ H->R fl ρ H):iV X env vm β h R fl s':=by
 rcases x with⟨az,H',aU,r',cF,g,q⟩
 refine⟨az,H',aU,r',cF,g,?_⟩;cases fl with
 |next=>exact i _ _ _ q
 |ret v=>(refine ay q ?_;clear q;intro p e q);exact⟨p,e,i _ _ _ q⟩
 |brk=>exact q.elim
 |cont=>exact q.elim
theorem iW.mono{st:List fE}{Q R:Fl->aJ->HP->Prop}(h:iW X n env vm st ρ H Q)(i:∀fl ρ H,Q fl ρ H->R fl ρ H):iW X n env vm st ρ H R:=λA β s ra r rf=>bP (h A β s ra r rf) (λU U x=>x.mono i) λU U x=>x
theorem iX.mono{st:fE}{Q R:Fl->aJ->HP->Prop}(h:iX X n env vm st ρ H Q)(i:∀fl ρ H,Q fl ρ H->R fl ρ H):iX X n env vm st ρ H R:=λA β s ra r rf=>bP (h A β s ra r rf) (λU U x=>x.mono i) λU U x=>x
theorem nX.mono{f:Value->eL Unit}{Q R:aJ->HP->Prop}(h:nX X n env vm f p ρ H Q)(i:∀ρ H,Q ρ H->R ρ H):nX X n env vm f p ρ H R:=λA β s v ra r rf hv=>bP (h A β s v ra r rf hv) (λU U zq=>by rcases zq with⟨a,b,c,d,e,f,q⟩;exact⟨a,b,c,d,e,f,i _ _ q⟩) λU U x=>x
theorem bg.mono{Q R:PV->HP->Prop}(h:bg X n env vm e ρ H Q)(i:∀p H,Q p H->R p H):bg X n env vm e ρ H R:=λA β s ra r rf=>bP (h A β s ra r rf) (λU U x=>x.mono i) λU U x=>x
theorem ic.mono{Q R:Bool->HP->Prop}(h:ic X n env vm e ρ H Q)(i:∀p H,Q p H->R p H):ic X n env vm e ρ H R:=λA β s ra r rf=>bP (h A β s ra r rf) (λU U zq=>by rcases zq with⟨a,b,c,d,q⟩;exact⟨a,b,c,d,i _ _ q⟩) λU U x=>x
theorem afu(h:bg X n env vm e ρ H λp H'=>Q (.ret p) ρ H'):iX X n env vm (.Return (ae e) pos) ρ H Q:=by
 intro A β s ra r rf;exact wpAny_Return_some (h.run ra r rf λp v az H' s' r' cF vr g q=>⟨az,H',ρ,r',cF,g.toT,p,vr,q⟩)
noncomputable def notRef:PV->Bool
 |.none|.bool _|.int _|.str _=>ag
 |_=>aq
noncomputable def wx:Expr->Bool
 |.ListComp .. |.SetComp .. |.DictComp .. =>aq
 |_=>ag
theorem ER{t:Option Expr}{l:Nat}(h:wx e=ag):ph e t l env=pure aq:=by
 cases e<;>first|rfl|exact absurd h dG
theorem afo(E:et X env)(hc:wx e=ag)(h:bg X n env vm e ρ H λp H'=>notRef p=ag/\Q .next ρ H'):iX X n env vm (.Expr e pos) ρ H Q:=by
 intro A β s ra r rf;refine wpAny_Expr (h.run ra r rf λp v az H' s' r' cF vr g q=>?_) (by unfold interactive;refine aa (E.kind ..) ?_;rfl) (ER hc);have:iV X env vm β s.heap Q .next s':=⟨az,H',ρ,r',cF,g.toT,q.2⟩
 cases p<;>try exact ff q.1
 ·refine aa ((show v=.none from vr) ..) ?_;exact this
 ·refine aa ((show v=.bool _ from vr) ..) ?_;exact this
 ·(refine aM vr ?_;clear vr;intro t e);refine aa (e ..) ?_;exact this
 ·(refine aM vr ?_;clear vr;intro t e);refine aa (e ..) ?_;exact this
theorem afr{c:Expr}{a b:List fE}(h:ic X n env vm c ρ H λt H'=>if t=ag then iW X n env vm a ρ H' Q else iW X n env vm b ρ H' Q):iX X n env vm (.If c a b pos) ρ H Q:=by
 intro A β s ra r rf;refine wpAny_If (bP (h A β s ra r rf) (λt s' zq=>?_) λU U x=>x);rcases zq with⟨az,H',r',g,q⟩
 cases t
 ·simp only[dF,↓dy,if_false]at q⊢
  exact bP (q A az s' ra r' (rf.ig g)) (λU U x=>x.trans g.toT) λU U x=>x
 ·simp only[↓fw,if_true]at q⊢
  exact bP (q A az s' ra r' (rf.ig g)) (λU U x=>x.trans g.toT) λU U x=>x
theorem afw{c:Expr}{a:List fE}(I:Nat->aJ->HP->Prop)(k0:Nat)(h0:I k0 ρ H)
 (turn:∀k ρ H,I k ρ H->ic X n env vm c ρ H λb H'=>if b=ag then iW X n env vm a ρ H' (λfl aU me=>match fl with|.next=>∃m,m<k/\I m aU me|.ret p=>Q (.ret p) aU me)else Q .next ρ H'):iX X n env vm (.While c a [] pos) ρ H Q:=by
 intro A β s ra r rf;refine wpAny_While (pc (codeAny_whileLoop (R:=λr s'=>match r with|.ok f=>iV X env vm β s.heap Q f s'|.error _=>False) (λk s'=>sO X env vm β s.heap (λaU H'=>I k aU H') s') (λk s1 zq=>?_) k0 ⟨β,H,ρ,r,rf,Go.refl _ _ _,h0⟩) ?_)
 ·rcases zq with⟨cN,H1,kE,r1,cY,g1,i1⟩
  refine bP (turn k kE H1 i1 A cN s1 ra r1 cY) (λb s2 zq=>?_) λU U x=>x.elim;rcases zq with⟨eK,H2,r2,g2,q⟩
  cases b
  ·simp only[dF,↓dy,if_false]at q⊢
   exact GQ ⟨eK,H2,kE,r2,cY.ig g2,g1.trans g2.toT,q⟩
  ·simp only[↓fw,if_true]at q⊢
   refine bP (q A eK s2 ra r2 (cY.ig g2)) (λfl s3 zq=>?_) λU U x=>x.elim;rcases zq with⟨sf,H3,lv,r3,nB,g3,q3⟩
   cases fl with
   |next=>(refine ay q3 ?_;clear q3;intro m hm hi);exact⟨m,hm,sf,H3,lv,r3,nB,(g1.trans g2.toT).trans g3,hi⟩
   |ret v=>exact⟨sf,H3,lv,r3,nB,(g1.trans g2.toT).trans g3,q3⟩
   |brk=>exact q3.elim
   |cont=>exact q3.elim
 ·intro rr s' x
  cases rr with
  |ok f=>exact x
  |error e=>exact x.elim
noncomputable def forR(asg:PV->aJ->HP->(aJ->HP->Prop)->Prop)(body:aJ->HP->(Fl->aJ->HP->Prop)->Prop)(dj:HP->Prop):List PV->aJ->HP->(Fl->aJ->HP->Prop)->Prop
 |[],ρ,H,Q=>Q .next ρ H
 |x::xs,ρ,H,Q=>asg x ρ H λkE H1=>body kE H1 λfl aU H'=>match fl with
  |.next=>dj H'/\forR asg body dj xs aU H' Q
  |.ret p=>Q (.ret p) aU H'
theorem acI{A:bG}{t:Expr}{I:aL}{P:Unit->aV->Prop}(it:eT H β s.heap I i p)(h:P () s):Wp X A (GI t (.ref I) v) P s:=by
 refine ay it.cls ?_;intro o ho aj;refine kC aj ?_;clear aj;intro c xs hc hd hm;have key:Wp X A (match v with
  |.ref a=>do
   let o<-load I
   match o.cls,o.data with
   |.type n,.fields vs=>
    if["enumerate","zip","dict_itemiterator","dict_reverseitemiterator","odict_iterator","itertools.zip_longest","itertools.pairwise"].contains n&&vs[0]? ==ae (hZ a)then
     rule "for.unpacks-the-owned-tuple"
     updateField I 0 .none
   |_,_=>pure ()
  |_=>pure ()) P s:=by
  cases v<;>(try exact aP h)
  refine ax (GU ho ?_);refine aa (hc ..) ?_;refine aa (hd ..) ?_;have:(["enumerate","zip","dict_itemiterator","dict_reverseitemiterator","odict_iterator","itertools.zip_longest","itertools.pairwise"].contains c)=aq:=by
   simp only[cH,FV,or_false]at hm;rcases hm with rfl|rfl|rfl|rfl|rfl|rfl<;>decide+kernel
  simp only[this,wV,dF,↓dy,if_false];exact aP h
 unfold GI;split
 ·cases v<;>exact key
 ·cases v<;>exact key
 ·exact aP h
inductive FL(X:Fx)(n:Nat)(env:Env)(vm:Vm)(t:Expr)(body:List fE)(p:PV)(H0:HP)(xs:List PV)(g7:bz)(h0:Heap)(Q:Fl->aJ->HP->Prop)(I:aL)(k:Nat)(s':aV):Prop
 |mk (i:Nat) (az:bz) (H':HP) (aU:aJ) (hm:k=xs.length - i) (hi:i<=xs.length) (r:aW X az H' s') (rf:di X env vm az aU s') (g:Go (λa=>fn env a\/a=I) g7 az h0 s'.heap) (hk:cD H0 H' p) (hI:∀l,az l≠ae I) (it:eT H' az s'.heap I i p)
   (h:forR (λx ρ H QA=>mX X n env vm t x ρ H QA) (λρ H Q=>iW X n env vm body ρ H Q) (λH'=>cD H0 H' p) (xs.drop i) aU H' Q)
theorem Jy{t:Expr}{body:List fE}{I:aL}{A:bG}(ra:cE n A)(e:itemsOf H0 p=ae xs)(hb:X.base.objs.size<=I)(pN:h0.objs.size<=I)(mm:∀a,fn env a->a≠I)
 (hR:∀fl s',iV X env vm g7 h0 Q fl s'->R (.ok fl) s')(i0:Nat)(ZZ:i0<=xs.length)(r:aW X β H s)(rf:di X env vm β ρ s)(g:Go (λa=>fn env a\/a=I) g7 β h0 s.heap)(hk:cD H0 H p)
 (hI:∀l,β l≠ae I)(it:eT H β s.heap I i0 p)
 (h:forR (λx ρ H QA=>mX X n env vm t x ρ H QA) (λρ H Q=>iW X n env vm body ρ H Q) (λH'=>cD H0 H' p) (xs.drop i0) ρ H Q):kM (bN X.prog X.w) A (.forLoop t (.ref I) body [] env) R s:=by
 refine codeAny_forLoop_any (FL X n env vm t body p H0 xs g7 h0 Q I) ?_ (xs.length - i0) ⟨i0,β,H,ρ,rfl,ZZ,r,rf,g,hk,hI,it,h⟩
 (intro k;intro s1;intro aj;rcases aj with⟨i,cN,H1,kE,rfl,hi,r1,cY,g1,cV,jJ,v9,h1⟩)
 have ES:∀a,fn env a->¬a=I:=mm;refine up (zY ra.hd r1 ((Ld cV).trans e) v9 hi jJ hb (λq v h' tk eq r2 g2 vr dE=>?_) (λh' tk hl r2 g2=>?_))
 ·have ir:di X env vm cN kE {s1 with heap:=h',toks:=tk}:=cY.go g2 ES
  refine up (acI dE ?_);have bo:i<xs.length:=by
   have:=(bJ.mp eq).1;exact this
  rw[qz bo]at h1;rw[bV bo]at eq
  obtain rfl:=so eq;refine bP (h1 A cN _ v ra r2 ir vr) (λU s3 zq=>?_) λU U x=>x.elim;rcases zq with⟨sf,H3,lv,r3,nB,g3,q3⟩
  refine bP (q3 A sf s3 ra r3 nB) (λfl s4 zq=>?_) λU U x=>x.elim;rcases zq with⟨g9,H4,wU,r4,rW,g4,q4⟩
  have gg:Go (λa=>fn env a\/a=I) g7 g9 h0 s4.heap:=g1.trans (g2.inr.trans (g3.inl.trans g4.inl))
  have JE:=g3.trans g4;cases fl with
  |next=>
   refine aK q4 ?_;clear q4;intro hc q4;refine⟨xs.length - (i+1),B0 bo,i+1,g9,H4,wU,rfl,pA bo,r4,rW,gg,hc,?_,eT.go (H:=H1) JE (λt=>ES I t rfl) jJ ?_ dE,q4⟩
   ·(refine ay dE.cls ?_;intro oI gV aj)
    exact JE.off gV jJ
   ·exact cD.back hc cV
  |ret v=>exact hR _ _ ⟨g9,H4,wU,r4,rW,gg.drop pN,q4⟩
  |brk=>exact q4.elim
  |cont=>exact q4.elim
 ·subst hl
  rw[Oa]at h1;refine GQ (hR _ _ ⟨cN,H1,kE,r2,cY.go g2 ES,(g1.trans g2.inr).drop pN,h1⟩)
noncomputable def fy:Expr->Bool
 |.Set .. =>aq
 |_=>ag
theorem An(h:fy e=ag):∀x,Bg e env x=pure x:=by
 intro x;cases e<;>first|rfl|exact absurd h dG
theorem afp{t it:Expr}{body:List fE}(O:cj X)(hs:fy it=ag)
 (h:bg X n env vm it ρ H λp H1=>ok (itemsOf H1 p) λxs=>forR (λx ρ H QA=>mX X n env vm t x ρ H QA) (λρ H Q=>iW X n env vm body ρ H Q) (λH'=>cD H1 H' p) xs ρ H1 Q):iX X n env vm (.For t it body [] pos) ρ H Q:=by
 intro A β s ra r rf;refine wpAny_For (h.run ra r rf λp v cN H1 s1 r1 cY vr g1 q=>?_) (An hs);rcases(cX q)with⟨xs,e,q⟩
 refine wa O.size r1 vr e λo r2 dE=>?_;have gp:Go bO cN cN s1.heap (s1.heap.push o):=sa;have mm:∀a,fn env a->a≠s1.heap.objs.size:=by
  intro a t;rcases t with rfl|⟨nm,e⟩
  ·(refine ay cY.ns ?_;intro m aj aB;refine fL aj ?_;clear aj;intro aS dv cO ho l5);exact dN (cq ho)
  ·(refine aK (cY.cells nm a e) ?_;intro aj aB;refine cZ aj ?_;clear aj;intro aS dv ho cO);exact dN (cq ho)
 exact Jy (H0:=H1) (R:=λr s'=>match r with|.ok f=>iV X env vm β s.heap Q f s'|.error x=>cameBackBy _ _ _ _ x s') ra e r1.lo g1.size mm (λU U x=>x) 0 (cJ _) r2 (cY.ig gp) ((g1.trans gp).toT.inl) cD.refl (r1.mE (bj _)) dE (by refine aa (wZ ..) ?_;exact q)
theorem aeg{xs:List (Atom×PV)}(r:aW X β H s)(e:H.get l=ae (.aH xs)):∃o,aW X β (H.set (.fB o xs) l) s:=by
 rcases(r.obj l _ e)with⟨a,o,e1,e2,ys,e3,e4,e5⟩
 exact⟨o,r.set (s:=s) (h':=s.heap) (tk:=s.toks) (HP.cS e) e1 (xq ..) e2 ⟨rfl,ys,e3,e4,e5⟩⟩
theorem aeh{o:Obj}{xs:List (Atom×PV)}(r:aW X β H s)(e:H.get l=ae (.fB o xs)):aW X β (H.set (.aH xs) l) s:=by
 rcases(r.obj l _ e)with⟨a,o',e1,e2,e0,ys,e3,e4,e5⟩
 exact r.set (s:=s) (h':=s.heap) (tk:=s.toks) (HP.cS e) e1 (xq ..) e2 ⟨ys,e3,e4,e5⟩
set_option tactic.hygienic true in
theorem afq{t it:Expr}{body:List fE}(O:cj X)(hs:fy it=ag)
 (h:bg X n env vm it ρ H λp H1=>match p with
   |.ak l=>match H1.get l with
    |some (.aH xs)=>∀o,forR (λx ρ H QA=>mX X n env vm t x ρ H QA) (λρ H Q=>iW X n env vm body ρ H Q) (λH'=>H'.get l=ae (.fB o xs)) (xs.map λx=>x.1.pv) ρ (H1.set (.fB o xs) l)
      (λfl aU H'=>match fl with|.next=>H'.get l=ae (.fB o xs)/\Q .next aU (H'.set (.aH xs) l)|.ret _=>False)
    |_=>False
   |_=>False):iX X n env vm (.For t it body [] pos) ρ H Q:=by
 intro A β s ra r rf;refine wpAny_For (h.run ra r rf λp v cN H1 s1 r1 cY vr g1 q=>?_) (An hs);split at q
 ·rename_i l
  split at q
  ·rename_i xs e0
   refine aM (aeg r1 e0) ?_;intro o rr;have tu:(H1.set (.fB o xs) l).get l=ae (.fB o xs):=by(refine aa (HP.get_set _ _ _ _ (by refine aa ((e0) ..) ?_;rfl) ..) ?_;refine aa (if_pos rfl ..) ?_;rfl)
   have e:itemsOf (H1.set (.fB o xs) l) (.ak l)=ae (xs.map λx=>x.1.pv):=congrArg tF tu;refine wa O.size rr vr e λo' r2 dE=>?_;have gp:Go bO cN cN s1.heap (s1.heap.push o'):=sa;have mm:∀a,fn env a->a≠s1.heap.objs.size:=by
    intro a t;rcases t with rfl|⟨nm,e⟩
    ·(refine ay cY.ns ?_;intro m aj aB;refine fL aj ?_;clear aj;intro aS dv cO ho l5);exact dN (cq ho)
    ·(refine aK (cY.cells nm a e) ?_;intro aj aB;refine cZ aj ?_;clear aj;intro aS dv ho cO);exact dN (cq ho)
   have Zv:(λH':HP=>cD (H1.set (.fB o xs) l) H' (.ak l))= λH'=>H'.get l=ae (.fB o xs):=by
    funext H';exact congrArg (λz=>H'.get l=z) tu
   refine Jy (H0:=H1.set (.fB o xs) l) (Q:=λfl aU H'=>match fl with|.next=>H'.get l=ae (.fB o xs)/\Q .next aU (H'.set (.aH xs) l)|.ret _=>False) (R:=λr s'=>match r with|.ok f=>iV X env vm β s.heap Q f s'|.error x=>cameBackBy _ _ _ _ x s') ra e r1.lo g1.size mm (λfl s' x=>?_) 0 (cJ _) r2 (cY.ig gp) ((g1.trans gp).toT.inl) rfl (r1.mE (bj _)) dE (by(refine aa (wZ ..) ?_;refine aa (Zv ..) ?_);exact q o);rcases x with⟨az,H',aU,r',cF,g',q'⟩
   cases fl with
   |next=>exact⟨az,_,aU,aeh r' q'.1,cF,g',q'.2⟩
   |ret v=>exact q'.elim λ_ z=>z.2.elim
   |brk=>exact q'.elim
   |cont=>exact q'.elim
  ·exact q.elim
 ·exact q.elim
end
end
section
noncomputable def kc(env:Env):List (Str×mR)->List (Str×aL)->List (Str×aL)
 |[],acc=>acc
 |(n,k)::r,acc=>kc env r (if k==.free then(n,(env.cells.lookup n).getD 0)::acc else acc)
theorem W3(h:∀x∈scope.names,x.2=.free->(env.cells.lookup x.1).isSome=ag):closureFor scope env=pure (kc env scope.names []):=by
 have key:∀(names:List (Str×mR)) (init:List (Str×aL)),(∀x∈names,x.2=.free->(env.cells.lookup x.1).isSome=ag)->
  (forIn names init λ(x:Str×mR) (r:List (Str×aL))=>(if(x.2==oT)=ag then do let a<-cellOf env x.1;pure (ud ((x.1,a)::r))else pure (ud r):eL (ForInStep (List (Str×aL)))))=pure (kc env names init):=by
  intro names;induction names with
  |nil=>intro init _;rfl
  |cons x r ih=>
   rcases x with⟨n,k⟩
   intro init h;rewrite[List.forIn_cons]
   have vV:=λinit=>ih init λy hy=>h y (cI _ hy);unfold kc;by_cases hk:k=.free
   ·(refine aM (uq.mp (h (n,k) ca hk)) ?_;intro c hc)
    have Zs:cellOf env n=pure c:=by unfold cellOf;dsimp only at hc;(refine aa (hc ..) ?_;rfl)
    dsimp only at hc;simp only[hk,beq_self_eq_true,↓fw,if_true,Zs,pure_bind,hc,Option.getD_some];exact vV _
   ·have:(k==oT)=aq:=by rewrite[beq_eq_false_iff_ne];exact hk
    simp only[this,dF,↓dy,if_false,pure_bind];exact vV _
 unfold closureFor;show(forIn scope.names [] (λ(x:Str×mR) (r:List (Str×aL))=>(if(x.2==oT)=ag then do let a<-cellOf env x.1;pure (ud ((x.1,a)::r))else pure (ud r):eL (ForInStep (List (Str×aL)))))>>= λcs=>pure cs)=_;refine aa (((key scope.names [] h)) ..) ?_;rfl
set_option tactic.hygienic true in
theorem sY{c:aL}:∀{names:List (Str×mR)} {acc:List (Str×aL)},(∀y∈names,y.2=.free->(env.cells.lookup y.1).isSome=ag)->(∀x c,acc.lookup x=ae c->env.cells.lookup x=ae c)->(kc env names acc).lookup x=ae c->env.cells.lookup x=ae c:=by
 intro names;induction names with
 |nil=>
  intro acc _ ha h;exact ha _ _ h
 |cons dP r ih=>
  rcases dP with⟨n,k⟩
  intro acc hf ha h;unfold kc at h;refine ih (λy hy=>hf y (cI _ hy)) (λz d hz=>?_) h;split at hz
  ·rename_i hk
   refine aM (uq.mp (hf (n,k) ca (by simpa using hk))) ?_;intro c' hc;dsimp only at hc;rw[l6]at hz;split at hz
   ·rename_i e
    have:z=n:=by simpa using e
    subst this;rw[hc]at hz⊢;exact hz
   ·exact ha _ _ hz
  ·exact ha _ _ hz
theorem W2:∀{names:List (Str×mR)} {acc:List (Str×aL)},(acc.lookup x).isSome=ag->((kc env names acc).lookup x).isSome=ag:=by
 intro names;induction names with
 |nil=>
  intro _ h;exact h
 |cons dP r ih=>
  rcases dP with⟨n,k⟩
  intro acc h;unfold kc;refine ih ?_;split
  ·refine aa (l6 ..) ?_;split<;>first|rfl|exact h
  ·exact h
theorem IW:∀{names:List (Str×mR)} {acc:List (Str×aL)},(x,oT)∈names->((kc env names acc).lookup x).isSome=ag:=by
 intro names;induction names with
 |nil=>
  intro acc h
  first|exact ns h|exact absurd h kJ
 |cons dP r ih=>
  rcases dP with⟨n,k⟩
  intro acc h;unfold kc;rcases cH.mp h with e|h
  ·(refine aK (F8 e) ?_;rintro rfl rfl)
   refine W2 ?_;simp
  ·exact ih h
set_option tactic.hygienic true in
theorem mem_of_lookupK{k:mR}:∀{names:List (Str×mR)},names.lookup x=ae k->(x,k)∈names:=by
 intro names;induction names with
 |nil=>
  intro h
  first|exact ns h|exact absurd h kJ
 |cons dP r ih=>
  rcases dP with⟨n,k'⟩
  intro h;rw[l6]at h;split at h
  ·rename_i e
   have:x=n:=by simpa using e
   subst this;obtain rfl:=(so h).symm;exact ca
  ·exact cI _ (ih h)
theorem MA:∀{names:List (Str×mR)},(names.map λ(n,k)=>if(k==oT&&env.scope.kind==.function&&env.kindOf n==ae .cell)then(n,Pc)else(n,k)).lookup x=(names.lookup x).map λk=>if(k==oT&&env.scope.kind==.function&&env.kindOf x==ae .cell)then .cell else k:=by
 intro names;induction names with
 |nil=>
  exact rfl
 |cons dP r ih=>
  rcases dP with⟨n,k⟩
  have ih:=ih;rewrite[bB,l6];cases hx:x==n with
  |true=>
   have e:x=n:=by simpa using hx
   subst e;dsimp only;by_cases hc:(k==oT&&env.scope.kind==.function&&env.kindOf x==ae .cell)=ag
   ·refine aa (if_pos hc ..) ?_;simp only[l6,beq_self_eq_true,mc,if_pos hc]
   ·refine aa (if_neg hc ..) ?_;simp only[l6,beq_self_eq_true,mc,if_neg hc]
  |false=>
   by_cases hc:(k==oT&&env.scope.kind==.function&&env.kindOf n==ae .cell)=ag
   ·dsimp only;refine aa (if_pos hc ..) ?_;simp only[l6,hx];exact ih
   ·dsimp only;refine aa (if_neg hc ..) ?_;simp only[l6,hx];exact ih
structure jZ(env:Env)(cs:Scope)(vm dL:Vm)(L:List (Nat×Str)):Prop where
 kind:cs.kind=.function
 L7:∀y∈cs.names,y.2≠.cell
 names:∀y∈cs.names,y.2=.local->cs.names.lookup y.1=ae .local
 free:∀y∈cs.names,y.2=.free->env.kindOf y.1=ae .cell
 tW:∀i x,(i,x)∈L->cs.names.lookup x=ae .local/\dL.lookup i=ae x
 vm:∀j y,dL.lookup j=ae y->(j,y)∈L\/(vm.lookup j=ae y/\cs.names.lookup y=ae .free/\∀x,(j,x)∉L)
 inj:∀i i' x,(i,x)∈L->(i',x)∈L->i=i'
section
variable{X:Fx}{n:Nat}{C:aL}
theorem jZ.cells(K:jZ env cs vm dL L)(E:et X env):∀x∈cs.names,x.2=.free->(env.cells.lookup x.1).isSome=ag:=λx hx hf=>E.Cs x.1 (K.free x hx hf)
theorem jZ.agd(K:jZ env cs vm dL L)(V:jG env vm):jG (Bb cs (kc env cs.names []) C env) dL where
 inj:=λi j x hi hj=>by
  rcases K.vm i x hi with h1|⟨h1,f1,n1⟩<;>rcases K.vm j x hj with h2|⟨h2,f2,n2⟩
  ·exact K.inj _ _ _ h1 h2
  ·rw[(K.tW _ _ h1).1]at f2;cases f2
  ·rw[(K.tW _ _ h2).1]at f1;cases f1
  ·exact V.inj _ _ _ h1 h2
set_option tactic.hygienic true in
theorem jZ.X4(K:jZ env cs vm dL L)(E:et X env){β:bz}{s:aV}(hC:X.base.objs.size<=C)(hn:∀x c,env.cells.lookup x=ae c->c≠C):et X (Bb cs (kc env cs.names []) C env) where
 kind:=K.kind
 glob:=E.glob
 blt:=E.blt
 lo:=hC
 pF:=λx c e=>by
  have:=sY (acc:=[]) (K.cells E) (λ_ _ e=>ns e) e;exact⟨(E.pF x c this).1,hn x c this⟩
 apart:=λx y c e e'=>E.apart x y c (sY (acc:=[]) (K.cells E) (λ_ _ e=>ns e) e) (sY (acc:=[]) (K.cells E) (λ_ _ e=>ns e) e')
 Cs:=λx e=>by
  have h:(Bl cs env).names.lookup x=ae .cell:=e;unfold Bl at h;rw[MA]at h;refine ay (i9.mp h) ?_;intro k h1 h2;split at h2
  ·rename_i hk
   have:k=.free:=eq_of_beq (bl (bl hk));subst this;exact IW (mem_of_lookupK h1)
  ·subst h2
   exact absurd rfl (K.L7 _ (mem_of_lookupK h1))
theorem jZ.frame(K:jZ env cs vm dL L)(E:et X env){m:Str->Option Value}(rf:di X env vm β ρ s)(g:Go bO β β s.heap s'.heap)(hm:s'.heap.Ns C m)(hC:∀l,β l≠ae C)
 (d0:∀i x,(i,x)∈L->ρ.getD i ai=ai):di X (Bb cs (kc env cs.names []) C env) dL β ρ s':=by
 have cF:=rf.ig g;refine⟨⟨m,hm,λi x p e q=>?_⟩,hC,λx c e=>?_⟩
 ·rcases K.vm i x e with h1|⟨h1,f1,n1⟩
  ·rw[d0 i x h1]at q;exact ns q
  ·(refine ay cF.ns ?_;intro aj aB hv)
   refine ay (hv i x p h1 q) ?_;intro v hr k
   have hk:=K.free (x,.free) (mem_of_lookupK f1) rfl;refine⟨v,hr,.inr ⟨.inl ?_,?_⟩⟩
   ·refine(?_:(Bl cs env).names.lookup x=ae .cell)
    unfold Bl;refine aa (MA ..) ?_;refine aa (f1 ..) ?_;dsimp only at hk;simp[E.kind,hk]
   ·rcases k with⟨k1,_⟩|⟨_,c,k2,k3⟩
    ·dsimp only at hk;rw[k1]at hk;cases hk
    ·refine⟨c,?_,k3⟩
     refine aM (uq.mp (IW (env:=env) (acc:=[]) (mem_of_lookupK f1))) ?_;intro c' n9
     have:=sY (acc:=[]) (K.cells E) (λU U e=>ns e) n9;rw[k2]at this;obtain rfl:=so this;exact n9
 ·exact cF.cells x c (sY (acc:=[]) (K.cells E) (λU U e=>ns e) e)
end
structure AccAt(X:Fx)(D:aL)(k:Nat)(β:bz)(h:Heap)(po:aF):Prop where
 at_:β (.c k)=ae D
 obj:∃o,h.get? D=ae o/\iT X β h po o
section
variable{X:Fx}{n:Nat}{D:aL}
theorem AccAt.free(r:aW X β H s)(x:AccAt X D k β s.heap po):∀l,l.cS=ag->β l≠ae D:=λl hp e=>by
 have:=r.inj _ _ _ x.at_ e;subst this;exact ff hp
theorem AccAt.go{T:aL->Prop}(r:aW X β H s)(g:Go T β az s.heap h')(hT:¬T D)(x:AccAt X D k β s.heap po):AccAt X D k az h' po:=
 ⟨g.sub _ _ x.at_,let⟨o,ho,hr⟩:=x.obj;⟨o,g.keep D o ho hT (x.free r),hr.go g⟩⟩
theorem AccAt.turn{ky:aF}{o':Obj}(r:aW X β H s)(x:AccAt X D k β s.heap po)(hb:X.base.objs.size<=D)(hs:jW D s.heap h')(ho:h'.get? D=ae o')(hr:Go (λa=>a=D) β β s.heap h'->iT X β h' ky o'):
 aW X β H {s with heap:=h',toks:=tk}/\AccAt X D k β h' ky/\Go (λa=>a=D) β β s.heap h':=by
 have g:Go (λa=>a=D) β β s.heap h':=⟨λU U e=>e,λU U e=> .inl e,λb o e t U=>(hs.2 b t).trans e,λb o e U nl=>(hs.2 b (λz=>nl _ (z▸x.at_))).trans e,au hs.1.symm⟩
 exact⟨r.keep (s':={s with heap:=h',toks:=tk}) g (λa t=>t▸hb) (λi a e t=>⟨o',t▸ho⟩) rfl rfl λl a hp e=>hs.2 a (λz=>x.free r l hp (z▸e)),⟨x.at_,o',ho,hr g⟩,g⟩
theorem aW.Mx(r:aW X β H s){a:aL}{o:Obj}(ha:s.heap.objs.size<=a)
 (hk:∀b x,s.heap.get? b=ae x->h'.get? b=ae x)(hs:s.heap.objs.size<=h'.objs.size)(ho:h'.get? a=ae o)(hr:∀az,Go bO β az s.heap h'->iT X az h' po o):
 ∃k az,aW X az H {s with heap:=h',toks:=tk}/\AccAt X a k az h' po/\Go bO β az s.heap h'/\β (.c k)=ai/\(∀l b,b≠a->az l=ae b->β l=ae b):=by
 refine aM r.nz ?_;intro N hN;have hn:β (.c N)=ai:=hN N (bj _);have put:∀l,(β.put (.c N) a) l=if l=.c N then ae a else β l:=λl=>rfl;have g:Go bO β (β.put (.c N) a) s.heap h':=by
  refine⟨λl b e=>?_,λl b e=>?_,λb x q U U=>hk b x q,λb x q U U=>hk b x q,hs⟩
  ·(rewrite[put];refine aa (if_neg (λz=>by rw[z,hn]at e;exact ns e) ..) ?_);exact e
  ·rw[put]at e
   by_cases h:l=.c N
   ·rw[if_pos h]at e;obtain rfl:=so e;exact .inr ha
   ·rw[if_neg h]at e;exact .inl e
 have tR:∀{l:cr},l.cS=ag->l≠.c N:=λhp z=>by subst z;exact ff hp
 refine⟨N,_,⟨λb x q=>hk b x (r.top b x q),r.os,r.gens,λl l' b e e'=>?_,λl b e=>?_,dC r.lo hs,λl p q=>?_,λl hp q=>?_,⟨N+1,λi hi=>?_⟩,λi b e=>?_⟩,⟨by(rewrite[put];refine aa (if_pos rfl ..) ?_;rfl),o,ho,hr _ g⟩,g,hn,λl b hb e=>?_⟩
 ·rw[put]at e e'
  by_cases hl:l=.c N<;>by_cases ij:l'=.c N
  ·(refine aa (hl ..) ?_;refine aa (ij ..) ?_;rfl)
  ·rw[if_pos hl]at e;rw[if_neg ij]at e';obtain rfl:=so e;exact absurd (r.lt e') (l9.mpr ha)
  ·rw[if_neg hl]at e;rw[if_pos ij]at e';obtain rfl:=so e';exact absurd (r.lt e) (l9.mpr ha)
  ·rw[if_neg hl]at e;rw[if_neg ij]at e';exact r.inj _ _ _ e e'
 ·rw[put]at e
  by_cases hl:l=.c N
  ·rw[if_pos hl]at e;obtain rfl:=so e;exact dC r.lo ha
  ·rw[if_neg hl]at e;exact r.off _ _ e
 ·rcases(r.obj l p q)with⟨b,x,e1,e2,e3⟩
  exact⟨b,x,by(rewrite[put];refine aa (if_neg (tR (HP.cS q)) ..) ?_);exact e1,hk _ _ e2,e3.go g⟩
 ·(rewrite[put];refine aa (if_neg (tR hp) ..) ?_);exact r.gU l hp q
 ·(rewrite[put];refine aa (if_neg (λz=>by cases z;exact US hi) ..) ?_);exact hN i (yf hi)
 ·rw[put]at e
  by_cases hl:(.c i:cr)=.c N
  ·rw[if_pos hl]at e;obtain rfl:=so e;exact⟨o,ho⟩
  ·rw[if_neg hl]at e;(refine aM (r.lU i b e) ?_;intro o ho);exact⟨o,hk _ _ ho⟩
 ·rw[put]at e
  by_cases hl:l=.c N
  ·rw[if_pos hl]at e;obtain rfl:=so e;exact absurd rfl hb
  ·rw[if_neg hl]at e;exact e
noncomputable def bz.lift(β:bz)(k:Nat):bz:=λl=>if l=.c k then ai else β l
def ku(aY:Option dn)(po:aF)(H:HP)(Q:PV->HP->Prop):Prop:=match aY with
 |none=>∃ps,po=.list ps/\Q (.lst ps) H
 |some f=>Q (.ak (H.next f)) (H.push po f)
theorem LF{T:aL->Prop}(r:aW X β H s)(x:AccAt X D k β s.heap po)(g:Go T g7 β h0 s.heap)(hD:h0.objs.size<=D)(hk:g7 (.c k)=ai)(q:ku aY po H Q):
 ∃p az H',aW X az H' s/\aN az s.heap p (.ref D)/\Go T g7 az h0 s.heap/\Q p H'/\(∀l b,b≠D->az l=ae b->β l=ae b)/\(∀l b,l.cS=ag->β l=ae b->az l=ae b)/\m0 β az s.heap s.heap:=by
 refine ay x.obj ?_;intro o ho hr;have tR:∀{l:cr},l.cS=ag->l≠.c k:=λhp z=>by subst z;exact ff hp
 have lf:∀l,(β.lift k) l=if l=.c k then ai else β l:=λl=>rfl;have only:∀l,β l=ae D->l=.c k:=λl e=>r.inj _ _ _ e x.at_;have s1:m0 β (β.lift k) s.heap s.heap:=⟨λl a hp e=>by(rewrite[lf];refine aa (if_neg (tR hp) ..) ?_);exact e,λa o e U nl=>⟨e,λl e'=>by
  rw[lf]at e';by_cases hl:l=.c k
  ·rw[if_pos hl]at e';exact ns e'
  ·rw[if_neg hl]at e';exact nl l e'⟩⟩
 have oJ:∀l b,(β.lift k) l=ae b->β l=ae b:=λl b e=>by
  rw[lf]at e;by_cases hl:l=.c k
  ·rw[if_pos hl]at e;exact ns e
  ·rw[if_neg hl]at e;exact e
 have r1:aW X (β.lift k) H s:=⟨r.top,r.os,r.gens,λl l' a e e'=>r.inj _ _ _ (oJ _ _ e) (oJ _ _ e'),λl a e=>r.off _ _ (oJ _ _ e),r.lo,λl ky e=>let⟨a,o,e1,e2,e3⟩:=r.obj l ky e;⟨a,o,by(rewrite[lf];refine aa (if_neg (tR (HP.cS e)) ..) ?_);exact e1,e2,e3.sees s1⟩,
  λl hp e=>by(rewrite[lf];refine aa (if_neg (tR hp) ..) ?_);exact r.gU l hp e,let⟨N,hN⟩:=r.nz;⟨N,λi hi=>by rewrite[lf];split<;>first|rfl|exact hN i hi⟩,λi a e=>r.lU i a (oJ _ _ e)⟩
 have CP:∀l,(β.lift k) l≠ae D:=λl e=>by
  rw[lf,if_pos (only l (oJ _ _ e))]at e;exact ns e
 have g1:Go T g7 (β.lift k) h0 s.heap:=⟨λl a e=>by(rewrite[lf];refine aa (if_neg (λz=>by rw[z,hk]at e;exact ns e) ..) ?_);exact g.sub l a e,λl a e=>g.fresh l a (oJ _ _ e),g.keep,g.ng,g.size⟩
 cases aY with
 |none=>
  refine ay q ?_;clear q;rintro ps rfl q;rcases hr with⟨vs,m,rfl,rv,hz⟩
  exact⟨.lst ps,_,H,r1,MC ho CP (bf.sees s1 _ _ rv),g1,q,λl b U e=>oJ l b e,λl b hp e=>s1.ak l b hp e,s1⟩
 |some f=>
  have hn:(β.lift k) (H.next f)=ai:=r1.gU _ (H.jl f) (H.vp f);have put:∀l,((β.lift k).put (H.next f) D) l=if l=H.next f then ae D else(β.lift k) l:=λl=>rfl;have s2:m0 β ((β.lift k).put (H.next f) D) s.heap s.heap:=⟨λl a hp e=>by
   rewrite[put];by_cases hl:l=H.next f
   ·subst hl;have:=s1.ak _ _ hp e;rw[hn]at this;exact ns this
   ·refine aa (if_neg hl ..) ?_;exact s1.ak _ _ hp e,λa o e hd nl=>⟨e,λl e'=>by
   rw[put]at e';by_cases hl:l=H.next f
   ·rw[if_pos hl]at e';obtain rfl:=so e';exact nl _ x.at_
   ·rw[if_neg hl]at e';exact nl _ (oJ _ _ e')⟩⟩
  have afE:∀l b,b≠D->((β.lift k).put (H.next f) D) l=ae b->β l=ae b:=λl b hb e=>by
   rw[put]at e;by_cases hl:l=H.next f
   ·rw[if_pos hl]at e;obtain rfl:=so e;exact absurd rfl hb
   ·rw[if_neg hl]at e;exact oJ _ _ e
  have Zm:X.base.objs.size<=D:=r.off _ _ x.at_;refine⟨.ak (H.next f),_,H.push po f,⟨r.top,r.os,r.gens,λl l' b e e'=>?_,λl b e=>?_,r.lo,λl p q=>?_,λl hp q=>?_,?_,λi b e=>?_⟩,qa (H.jl f) (by(rewrite[put];refine aa (if_pos rfl ..) ?_;rfl)),⟨λl b e=>?_,λl b e=>?_,g.keep,g.ng,g.size⟩,q,afE,λl b hp e=>s2.ak l b hp e,s2⟩
  ·rw[put]at e e'
   by_cases hl:l=H.next f<;>by_cases ij:l'=H.next f
   ·(refine aa (hl ..) ?_;refine aa (ij ..) ?_;rfl)
   ·rw[if_pos hl]at e;rw[if_neg ij]at e';obtain rfl:=so e;exact absurd e' (CP _)
   ·rw[if_neg hl]at e;rw[if_pos ij]at e';obtain rfl:=so e';exact absurd e (CP _)
   ·rw[if_neg hl]at e;rw[if_neg ij]at e';exact r1.inj _ _ _ e e'
  ·rw[put]at e
   by_cases hl:l=H.next f
   ·rw[if_pos hl]at e;obtain rfl:=so e;exact Zm
   ·rw[if_neg hl]at e;exact r1.off _ _ e
  ·rw[HP.vq]at q
   by_cases hl:l=H.next f
   ·rw[if_pos hl]at q;obtain rfl:=so q
    exact⟨D,_,by(rewrite[put];refine aa (if_pos hl ..) ?_;rfl),ho,hr.sees s2⟩
   ·rw[if_neg hl]at q
    rcases(r.obj l p q)with⟨b,x',e1,e2,e3⟩
    exact⟨b,x',s2.ak _ _ (HP.cS q) e1,e2,e3.sees s2⟩
  ·rw[HP.vq]at q
   by_cases hl:l=H.next f
   ·rw[if_pos hl]at q;exact sn q
   ·rw[if_neg hl]at q
    (rewrite[put];refine aa (if_neg hl ..) ?_);exact r1.gU l hp q
  ·(refine aM r1.nz ?_;intro N hN)
   refine⟨N,λi hi=>?_⟩
   (rewrite[put];refine aa (if_neg (λz=>by have:=H.jl f;rw[<-z]at this;exact ff this) ..) ?_);exact hN i hi
  ·rw[put,if_neg (λz=>by have:=H.jl f;rw[<-z]at this;exact ff this)]at e
   exact r1.lU i b e
  ·rewrite[put]
   by_cases hl:l=H.next f
   ·have:=g1.sub l b e;rw[hl,hn]at this;exact ns this
   ·refine aa (if_neg hl ..) ?_;exact g1.sub l b e
  ·rw[put]at e
   by_cases hl:l=H.next f
   ·rw[if_pos hl]at e;obtain rfl:=so e;exact .inr hD
   ·rw[if_neg hl]at e;exact g1.fresh l b e
end
end
section
def eX(X:Fx)(n:Nat)(env:Env)(vm:Vm)(ifs:List Expr)(ρ:aJ)(H:HP)(Q:Bool->HP->Prop):Prop:=match ifs with
 |[]=>Q ag H
 |[c]=>ic X n env vm c ρ H Q
 |_=>False
noncomputable def cw(i0:Nat)(gt:aJ->HP->(Bool->HP->Prop)->Prop)(rest:aJ->aF->HP->(aJ->aF->HP->Prop)->Prop)(dj:HP->Prop):List PV->aJ->aF->HP->(aJ->aF->HP->Prop)->Prop
 |[],ρ,acc,H,Q=>Q ρ acc H
 |x::xs,ρ,acc,H,Q=>gt (aR ρ i0 x) H λb H1=>if b=ag then rest (aR ρ i0 x) acc H1 λaU fe H'=>dj H'/\cw i0 gt rest dj xs aU fe H' Q
   else dj H1/\cw i0 gt rest dj xs (aR ρ i0 x) acc H1 Q
inductive Bx(X:Fx)(env:Env)(vm:Vm)(D:aL)(k:Nat)(β:bz)(h:Heap)(Q:aJ->aF->HP->Prop)(s':aV):Prop
 |mk (az:bz) (H':HP) (aU:aJ) (fe:aF) (r:aW X az H' s') (rf:di X env vm az aU s') (ac:AccAt X D k az s'.heap fe) (g:Go (λa=>a=env.locals\/a=D) β az h s'.heap) (q:Q aU fe H')
def jE(X:Fx)(n:Nat)(env:Env)(vm:Vm)(D:aL)(k:Nat)(f:eL Unit)(ρ:aJ)(acc:aF)(H:HP)(Q:aJ->aF->HP->Prop):Prop:=
 ∀A β s,cE n A->aW X β H s->di X env vm β ρ s->AccAt X D k β s.heap acc->Wp X A f (λU s'=>Bx X env vm D k β s.heap Q s') s
inductive CL(X:Fx)(n:Nat)(env:Env)(vm:Vm)(D:aL)(k i0:Nat)(ifs:List Expr)(rest:eL Unit)(p:PV)(H0:HP)(xs:List PV)(g7:bz)(h0:Heap)(Q:aJ->aF->HP->Prop)(I:aL)(m:Nat)(s':aV):Prop
 |mk (i:Nat) (az:bz) (H':HP) (aU:aJ) (fe:aF) (hm:m=xs.length - i) (hi:i<=xs.length) (r:aW X az H' s') (rf:di X env vm az aU s') (ac:AccAt X D k az s'.heap fe) (g:Go (λa=>(a=env.locals\/a=D)\/a=I) g7 az h0 s'.heap) (hk:cD H0 H' p) (hI:∀l,az l≠ae I) (it:eT H' az s'.heap I i p)
   (h:cw i0 (λρ H QB=>eX X n env vm ifs ρ H QB) (λρ acc H Q=>jE X n env vm D k rest ρ acc H Q) (λH'=>cD H0 H' p) (xs.drop i) aU fe H' Q)
section
variable{X:Fx}{n:Nat}{D:aL}{Q:aJ->aF->HP->Prop}{p:PV}
structure lE(X:Fx)(env:Env)(vm:Vm)(D:aL):Prop where
 E:et X env
 V:jG env vm
 hb:X.base.objs.size<=D
 hD:∀a,fn env a->a≠D
noncomputable def wM(e:Expr)(d:Nat)(I D:aL)(env:Env)(x:Str)(px q:f0)(ifs:List Expr)(rest:eL Unit):eL Fin:=do
 gx q
 match<-nU (.ref I)with
 |none=>pure (.done .next)
 |some v=>
  GI (.Name x px) (.ref I) v
  jB (.Name x px) env v
  let mut ok:=ag
  for c in ifs do
   if ok then ok<-sG c env (bU c env)
  if ok then rest
  again (.compLoop e d (.ref I) (.ref D) env)
theorem afL{A:bG}(h:eX X n env vm ifs ρ H QB)(ra:cE n A)(r:aW X β H s)(rf:di X env vm β ρ s):
 Wp X A (forIn ifs ag λc r=>if r=ag then do let ok<-sG c env (bU c env);pure (ud ok)else pure (ud r)) (iU X β s.heap QB) s:=by
 unfold eX at h;split at h
 ·exact wpAny_tests_nil (iU.same r h)
 ·exact wpAny_tests_one (h A β s ra r rf)
 ·exact h.elim
theorem I3{d:Nat}{I:aL}{q:f0}{rest:eL Unit}{A:bG}(K:lE X env vm D)(hx:vm.lookup i0=ae x0)(zt:env.kindOf x0=ae .local)
 (hq:(oS e d (.ref I) (.ref D) env).quiet=ag)(hf:(oS e d (.ref I) (.ref D) env).isFrame=aq)(hu:∀A:bG,A.under (.compLoop e d (.ref I) (.ref D) env)=A)
 (aaM:xy e d (.ref I) (.ref D) env=wM e d I D env x0 px q ifs rest)
 (ra:cE n A)(eI:itemsOf H0 p=ae xs)(Zn:X.base.objs.size<=I)(pN:h0.objs.size<=I)(C0:D≠I)(mm:∀a,fn env a->a≠I)
 (r:aW X β H s)(rf:di X env vm β ρ s)(ac:AccAt X D k β s.heap acc)(g:Go (λa=>(a=env.locals\/a=D)\/a=I) g7 β h0 s.heap)(hk:cD H0 H p)(hI:∀l,β l≠ae I)(i1:Nat)(Z0:i1<=xs.length)(it:eT H β s.heap I i1 p)
 (h:cw i0 (λρ H QB=>eX X n env vm ifs ρ H QB) (λρ acc H Q=>jE X n env vm D k rest ρ acc H Q) (λH'=>cD H0 H' p) (xs.drop i1) ρ acc H Q):
 kM (bN X.prog X.w) A (.compLoop e d (.ref I) (.ref D) env) (λr s'=>match r with|.ok _=>Bx X env vm D k g7 h0 Q s'|.error _=>False) s:=by
 refine codeAny_loop hq (CL X n env vm D k i0 ifs rest p H0 xs g7 h0 Q I) (λm s1 hI=>?_) (xs.length - i1) ⟨i1,β,H,ρ,acc,rfl,Z0,r,rf,ac,g,hk,hI,it,h⟩;rcases hI with⟨i,cN,H1,kE,B8,rfl,hi,r1,cY,pB,g1,cV,jJ,v9,h1⟩
 rewrite[hu];have ZL:(bN X.prog X.w).den (.compLoop e d (.ref I) (.ref D) env)=(xy e d (.ref I) (.ref D) env).onRaise (λx=>do noteFrame x env;theTreesLotGoes x):=by
  refine(?_:(if(oS e d (.ref I) (.ref D) env).isFrame then _ else _)=_);refine aa (hf ..) ?_;rfl
 refine aa (ZL ..) ?_;refine wpAny_noted ?_;refine aa (aaM ..) ?_;unfold wM;refine up (ax (fF (ax (zY ra.hd r1 ((Ld cV).trans eI) v9 hi jJ Zn (λq v h' tk eq r2 g2 vr dE=>?_) (λh' tk hl r2 g2=>?_)))))
 ·have bo:i<xs.length:=(bJ.mp eq).1
  rw[qz bo]at h1
  obtain rfl:=mQ ((bV bo).symm.trans eq);rw[cw]at h1;refine ax (aP (ax (Px (Nf K.E K.V hx (.inl zt) r2 (cY.go g2 mm) vr λs3 r3 nB U g3=>?_))));have yM:Go (λa=>a=env.locals) cN cN h' s3.heap:=g3.weak λa t=>t.2 zt;refine ax (bP (afL h1 ra r3 nB) (λb s4 zq=>?_) λU U x=>x);rcases zq with⟨g9,H4,r4,g4,q4⟩
  have rW:=nB.ig g4;have yh:AccAt X D k g9 s4.heap B8:=((pB.go r1 g2 C0).go r2 yM (λz=>K.hD env.locals (.inl rfl) z.symm)).go r3 g4 (λz=>z);have JD:Go (λa=>(a=env.locals\/a=D)\/a=I) cN g9 s1.heap s4.heap:=(g2.weak λU t=> .inr t).trans ((yM.weak λU t=> .inl (.inl t)).trans g4.toT);have tE:∀H' az h',cD H1 H' p->(∀T,(∀a,T a->a≠I)->Go T g9 az s4.heap h'->eT H' az h' I (i+1) p):=by
   intro H' az h' hs T hT gg;have x3:eT H1 cN s3.heap I (i+1) p:=eT.go yM (λz=>mm env.locals (.inl rfl) z.symm) jJ cD.refl dE;refine ay x3.cls ?_;intro oI gV aj;exact eT.go gg (λz=>hT I z rfl) (g4.off gV jJ) hs (eT.go g4 (λz=>z) jJ cD.refl x3)
  have JT:∀l,g9 l≠ae I:=by
   refine ay ((eT.go yM (λz=>mm env.locals (.inl rfl) z.symm) jJ cD.refl dE:eT H1 cN s3.heap I (i+1) p).cls) ?_;intro oI gV aj;exact g4.off gV jJ
  have kept:∀H',cD H0 H' p->cD H1 H' p:=by
   exactλH' hc=>hc.back cV
  cases b with
  |false=>
   simp only[dF,↓dy,if_false]at q4⊢;refine ax (aP (aP ⟨rfl,xs.length - (i+1),B0 bo,i+1,g9,H4,_,B8,rfl,pA bo,r4,rW,yh,g1.trans JD,q4.1,JT,tE H4 g9 s4.heap (kept _ q4.1) bO (λU z=>z.elim) (Go.refl _ _ _),q4.2⟩))
  |true=>
   simp only[↓fw,if_true]at q4⊢;refine ax (bP (q4 A g9 s4 ra r4 rW yh) (λU s5 zq=>?_) λU U x=>x);rcases zq with⟨wT,H5,Fz,Iq,r5,Ae,B7,g5,q5⟩
   have Za:∀a,(a=env.locals\/a=D)->a≠I:=λa t=>t.elim (λz=>z▸mm env.locals (.inl rfl)) λz=>z▸C0;have Y4:∀l,wT l≠ae I:=by
    refine ay ((tE H1 g9 s4.heap cD.refl bO (λU z=>z.elim) (Go.refl _ _ _)).cls) ?_;intro oI gV aj;exact g5.off gV JT
   exact aP ⟨rfl,xs.length - (i+1),B0 bo,i+1,wT,H5,Fz,Iq,rfl,pA bo,r5,Ae,B7,g1.trans (JD.trans (g5.weak λU t=> .inl t)),q5.1,Y4,tE H5 wT s5.heap (kept _ q5.1) _ Za g5,q5.2⟩
 ·subst hl
  rw[Oa]at h1;exact aP ⟨cN,H1,kE,B8,r2,cY.go g2 mm,pB.go r1 g2 C0,(g1.trans (g2.weak λU t=> .inr t)).drop pN,h1⟩
theorem XY(K:lE X env vm D)(h:∃ps,acc=.list ps/\ps.length<aI/\bg X n env vm elt ρ H λp H'=>Q ρ (.list (ps++[p])) H'):
 jE X n env vm D k (do let _<-call (.builtin "list.append") [.ref D,<-bU elt env]) ρ acc H Q:=by
 refine ay h ?_;clear h;rintro ps rfl aB;refine aK aB ?_;clear aB;intro hz h;intro A β s ra r rf ac;refine ax (h.run ra r rf λp v cN H1 s1 r1 cY vr g1 q=>?_)
 have pB:=ac.go r g1 (λz=>z);refine ay pB.obj ?_;intro o ho aj;rcases aj with⟨vs,m,eo,rv,pT⟩
 subst eo;refine ax (wpAny_list_append_plain (l:=D) (items:=bT vs) ⟨m,ho⟩ (λh' hp hs=>?_) (by have:=rv.length;have:=gP;simp only[fu];exact uP hz (by assumption) this));refine aM hp ?_;clear hp;intro m' dZ;have vH:h'.get? D=ae ⟨.type "list",ai,.seq (bT (vs++[v])) m',#[]⟩:=by simpa using dZ
 refine eB (pB.turn (tk:=s1.toks) (ky:=.list (ps++[p])) r1 K.hb hs vH (λg=>⟨_,_,rfl,bf.go g _ _ (rv.append (.one vr)),by simp;exact pA hz⟩)) ?_;intro r2 rc g2;exact aP ⟨cN,H1,ρ,_,r2,cY.go (s':={s1 with heap:=h'}) g2 K.hD,rc,(g1.toT.trans (g2.weak λU t=> .inr t)),q⟩
theorem XW{pp:f0}(K:lE X env vm D)(h:∃xs,acc=.aH xs/\xs.length<aI/\bg X n env vm kx ρ H λq H1=>ok (fO q) λkey=>bg X n env vm vx ρ H1 λp H'=>Q ρ (.aH (dput xs key p)) H'):
 jE X n env vm D k (do
  let kv<-bU kx env
  let vv<-fb [kv] (bU vx env)
  gx pp
  fb [kv,vv] (dictSet D kv vv)) ρ acc H Q:=by
 refine ay h ?_;clear h;rintro xs rfl aB;refine aK aB ?_;clear aB;intro hz h;intro A β s ra r rf ac;refine ax (h.run ra r rf λq kv cN H1 s1 r1 cY kr g1 h1=>?_);rcases(cX h1)with⟨key,ek,h1⟩
 refine ax (cU (h1.run ra r1 cY λp vv eK H2 s2 r2 ir vr g2 q2=>?_))
 have rc:=ac.go r (g1.trans g2) (λz=>z);refine ay rc.obj ?_;intro o ho aj;rcases aj with⟨ys,hd,he,pT⟩
 have Lo:=aN.go g2 _ _ kr;rw[rh ek]at Lo;refine ax (fF (cU (Pz (knd:=fv X.prog X.w) (n0 Lo) (qL.mpr ⟨o,ho,hd⟩) (λh' fI hs=>?_) (by have:=he.length;have:=gP;exact uP hz (by assumption) this))));refine ay (qL.mp fI) ?_;intro o' dZ ni;refine eB (rc.turn (tk:=s2.toks+1) (ky:=.aH (dput xs key p)) r2 K.hb hs dZ (λg=>⟨_,ni,(he.put vr).go g,by have:=n6 xs key p;exact ye hz this⟩)) ?_;intro r3 B6 g3;exact⟨eK,H2,ρ,_,r3,ir.go (s':={s2 with heap:=h',toks:=s2.toks+1}) g3 K.hD,B6,((g1.trans g2).toT.trans (g3.weak λU t=> .inr t)),q2⟩
end
end
section
section
variable{X:Fx}{n:Nat}{p:PV}
set_option tactic.hygienic true in
theorem MN{A:bG}{I:aL}(it:eT H β s.heap I i p)(h:P (.ref I) s):Wp X A (pf (.ref I)) P s:=by
 cases p<;>(try exact it.elim)
 case tup ps=>(refine cb it ?_;clear it;intro a aj hit aB);exact wpAny_pyIter_tupleiter hit h
 case lst ps=>(refine cb it ?_;clear it;intro a aj hit aB);exact PC hit h
 case eh n=>exact wpAny_pyIter_rangeiter it h
 case str x'=>
  refine aM it ?_;clear it;intro t aj;rcases aj with hit|hit
  ·exact wpAny_pyIter_striter_ascii hit h
  ·exact wpAny_pyIter_striter_wide hit h
 case ak l=>
  refine cb it ?_;clear it;intro a e aj hk;split at hk
  ·exact PC hk h
  ·(refine cZ hk ?_;clear hk;intro es ep aj hit);exact wpAny_pyIter_keyiter hit h
  ·exact hk.elim
theorem Nn{a:aL}{o:Obj}(e:h.get? a=ae o): @sg Nat instLTNat a h.objs.size:=cq e
theorem nn(h:a<b\/b<a):a≠b:=UT h
theorem zK(h:a<=b):a<=b:=h
noncomputable abbrev eO(cs:Scope)(env:Env)(C:aL):Env:=Bb cs (kc env cs.names []) C env
def xR(X:Fx)(e:Expr)(d:Nat):Prop:=∀(A:bG) (it acc:Value) (env:Env) (R:Result->aV->Prop) (s:aV),kM (bN X.prog X.w) A (.compLoop e d it acc env) R s->
 bm (bN X.prog X.w) A (pf it) (λbY s'=>kM (bN X.prog X.w) A (.compLoop e d bY acc env) R s') (notedBy (bN X.prog X.w) A env λx s'=>R (.error x) s') s->kM (bN X.prog X.w) A (.compStart e d it acc env) R s
theorem Ff:xR X (.ListComp elt (⟨target,iter,ifs,0⟩::gens) scope pos) 0:=λU U U U U U h0 h=>codeAny_compStart_list h0 h
theorem afy:xR X (.DictComp kx vx (⟨target,iter,ifs,0⟩::gens) scope pos) 0:=λU U U U U U h0 h=>codeAny_compStart_dict h0 h
theorem afz{g0:qJ}:xR X (.ListComp elt (g0::⟨target,iter,ifs,0⟩::gens) scope pos) 1:=λA it acc env R s h0 h=>by
 refine GD ?_;show bm _ A ((compStart (.ListComp elt (g0::⟨target,iter,ifs,0⟩::gens) scope pos) 1 it acc env).onRaise (λx=>do noteFrame x env;gx theWindowsPlace)) _ _ s;refine wpAny_notedAt ?_;unfold compStart;refine(?_:bm _ A (ask>>=_) _ _ s);refine ax (xJ (wpAny_ite ?_));split
 ·first
   |exact ax (aP (aP (qw rfl h0)))
   |exact aP (qw rfl h0)
 ·first
   |exact ax (qS (ax (fF (ax (bP h (λbY s' h'=>aP (qw rfl h')) λU U x=>x)))))
   |(refine ax (qS ?_);show bm _ _ (gx iter.pos>>=_) _ _ s;exact ax (fF (ax (bP h (λbY s' h'=>aP (qw rfl h')) λU U x=>x))))
theorem yD{v7:f0}{L3:eL Value}{Mt:aF}{o0:Obj}{use:Option (Value->eL Unit)}{A:bG}{Qv:Value->aV->Prop}{rest:aL->Env->eL Unit}
 (O:cj X)(E:et X env)(V:jG env vm)(K:jZ env scope vm dL L)(hL:(i0,x0)∈L)(hs:fy iter=ag)
 (gH:clausesOf e=⟨.Name x0 px,iter,ifs,0⟩::gens)(eU:xR X e 0)(jg:∀(s:aV) (P:Value->aV->Prop),P (.ref s.heap.objs.size) {s with heap:=s.heap.push o0}->Wp X A L3 P s)(ZT:o0.isFreed=aq)(aar:∀β h,iT X β h Mt o0)
 (hq:∀I D dH,(oS e 0 (.ref I) (.ref D) dH).quiet=ag/\(oS e 0 (.ref I) (.ref D) dH).isFrame=aq/\(∀A:bG,A.under (.compLoop e 0 (.ref I) (.ref D) dH)=A)/\
   xy e 0 (.ref I) (.ref D) dH=wM e 0 I D dH x0 px v7 ifs (rest D dH))
 (d0:∀i x,(i,x)∈L->ρ.getD i ai=ai)
 (ra:cE n A)(r:aW X β H s)(rf:di X env vm β ρ s)
 (h:bg X n env vm iter ρ H λp H1=>ok (itemsOf H1 p) λxs=>∀C D k,lE X (eO scope env C) dL D->
   cw i0 (λρ H QB=>eX X n (eO scope env C) dL ifs ρ H QB) (λρ acc H Q=>jE X n (eO scope env C) dL D k (rest D (eO scope env C)) ρ acc H Q) (λH'=>cD H1 H' p) xs ρ Mt H1 λU acc H'=>ku aY acc H' Q)
 (Kh:∀D C s' az H' p m fl,aW X az H' s'->aN az s'.heap p (.ref D)->Go bO β az s.heap s'.heap->s'.heap.Ns C m->(∀l,az l≠ae C)->s.heap.objs.size<=C->Q p H'->Bc (bN X.prog X.w) A FF use Qv (.ref D) C (.ok fl) s'):
 Wp X A (Bd e scope env pos L3 aq (bU iter env) use) Qv s:=by
 refine wpAny_comprehension_free gH (An hs) (W3 (K.cells E)) K.kind K.names (h.run ra r rf λp v cN H1 s1 r1 cY vr g1 q=>?_);rcases(cX q)with⟨xs,eI,q⟩
 refine wa O.size r1 vr eI λoI r2 dE=>?_;refine jg _ _ ?_;refine wpAny_newFunctionEnv K.L7 (by intro y hy;simp at hy) (λh4 Ky gm=>?_) K.kind;dsimp only at Ky gm⊢;refine(?_:kM _ A (.compStart e 0 (.ref s1.heap.objs.size) (.ref (s1.heap.push oI).objs.size) (eO scope env ((s1.heap.push oI).push o0).objs.size)) _ _);have z1:(s1.heap.push oI).objs.size=s1.heap.objs.size+1:=dI ..;have z2:((s1.heap.push oI).push o0).objs.size=s1.heap.objs.size+2:=by(rewrite[dI];refine aa (z1 ..) ?_;rfl)
 have z3:h4.objs.size=s1.heap.objs.size+3:=by(refine aa (gm.1 ..) ?_;rewrite[dI];refine aa (z2 ..) ?_;rfl)
 have abZ:∀b o,(s1.heap.push oI).get? b=ae o->h4.get? b=ae o:=λb o e=>by
  have:=Nn e;have dJ:b≠((s1.heap.push oI).push o0).objs.size:=by intro z;have h8: @Eq Nat b ((s1.heap.push oI).push o0).objs.size:=z;exact UU z1 z2 this h8
  exact(gm.2 b dJ).trans (cv _ (cv _ e))
 refine NH (r2.Mx (s:={s1 with heap:=s1.heap.push oI}) (tk:=s1.toks+0) (bj _) abZ (by show(s1.heap.push oI).objs.size<=_;exact UW z1 z3) ((gm.2 _ (nn (UV z1 z2))).trans (cv _ (dw _ ZT))) (λaz U=>aar az h4)) ?_;intro k g9 r4 yh g4 aaa Nk;have JB:Go bO cN g9 s1.heap h4:=sa.trans g4;have PH:∀l,g9 l≠ae ((s1.heap.push oI).push o0).objs.size:=λl e=>by
  have:=Nk l _ (nn (by show _<(s1.heap.push oI).objs.size\/(s1.heap.push oI).objs.size<_;exact Ia z1 z2)) e;exact UX z1 z2 (r2.lt this)
 have PQ:∀l,g9 l≠ae s1.heap.objs.size:=λl e=>by
  have:=Nk l _ (nn (by show _<(s1.heap.push oI).objs.size\/(s1.heap.push oI).objs.size<_;exact UY z1)) e;exact r1.mE (bj _) l this
 have qi:∀a,fn env a-> @sg Nat instLTNat a s1.heap.objs.size:=by
  intro a t;rcases t with rfl|⟨nm,e⟩
  ·(refine ay cY.ns ?_;intro m aj aB;refine fL aj ?_;clear aj;intro aS dv cO ho l5);exact cq ho
  ·(refine aK (cY.cells nm a e) ?_;intro aj aB;refine cZ aj ?_;clear aj;intro aS dv ho cO);exact cq ho
 have lo1:=r1.lo;have Ec:et X (eO scope env ((s1.heap.push oI).push o0).objs.size):=K.X4 E (β:=cN) (s:=s1) (zK (Ib z2 lo1)) λx c e=>nn (by
  have:=qi c (.inr ⟨x,e⟩);exact UZ z2 this)
 have I6:∀a,fn (eO scope env ((s1.heap.push oI).push o0).objs.size) a-> @Eq Nat a ((s1.heap.push oI).push o0).objs.size\/ @sg Nat instLTNat a s1.heap.objs.size:=by
  rintro a (rfl|⟨nm,e⟩)
  ·exact .inl rfl
  ·exact .inr (qi a (.inr ⟨nm,sY (K.cells E) (by simp) e⟩))
 have KA:lE X (eO scope env ((s1.heap.push oI).push o0).objs.size) dL (s1.heap.push oI).objs.size:=⟨Ec,K.agd V,zK (U0 z1 lo1),λa t=>nn (by rcases I6 a t with h|h<;>(first|exact U1 z1 z2 h|exact U2 z1 h))⟩
 have rW:di X (eO scope env ((s1.heap.push oI).push o0).objs.size) dL g9 ρ {s1 with heap:=h4,toks:=s1.toks+0}:=by
  exact K.frame (C:=((s1.heap.push oI).push o0).objs.size) (s:={s1 with heap:=h4,toks:=s1.toks+0}) (s':={s1 with heap:=h4,toks:=s1.toks+0}) E (cY.ig (s':={s1 with heap:=h4,toks:=s1.toks+0}) JB) (Go.refl _ _ _) Ky PH d0
 have tE:eT H1 g9 h4 s1.heap.objs.size 0 p:=eT.go g4 (λz=>z) (r1.mE (bj _)) cD.refl dE;have loop:kM (bN X.prog X.w) A (.compLoop e 0 (.ref s1.heap.objs.size) (.ref (s1.heap.push oI).objs.size) (eO scope env ((s1.heap.push oI).push o0).objs.size)) (Bc (bN X.prog X.w) A FF use Qv (.ref (s1.heap.push oI).objs.size) ((s1.heap.push oI).push o0).objs.size) {s1 with heap:=h4,toks:=s1.toks+0}:=by
  refine mJ (hq s1.heap.objs.size (s1.heap.push oI).objs.size (eO scope env ((s1.heap.push oI).push o0).objs.size)) ?_;intro q1 q2 q3 q4;refine pc (I3 (h0:=s1.heap) (g7:=cN) (H0:=H1) (p:=p) KA (K.tW _ _ hL).2 (Pr (K.tW _ _ hL).1) q1 q2 q3 q4 ra eI lo1 (bj _) (nn (U3 z1)) (λa t=>nn (by rcases I6 a t with h|h<;>(first|exact U4 z2 h|exact B1 h))) r4 rW yh JB.toT cD.refl PQ 0 (cJ _) tE (by refine aa (wZ ..) ?_;exact q _ _ k KA)) λrr s5 hx=>?_;cases rr with
  |error x=>exact hx.elim
  |ok fl=>
   rcases hx with⟨wT,H5,Fz,Iq,r5,Ae,B7,g5,q5⟩
   have gg:Go bO cN wT s1.heap s5.heap:=⟨g5.sub,g5.fresh,λa o e U nl=>g5.keep a o e (λt=>by
    have:=Nn e;rcases t with h|h
    ·have h9: @Eq Nat a ((s1.heap.push oI).push o0).objs.size:=h
     exact U5 z2 this h9
    ·have h9: @Eq Nat a (s1.heap.push oI).objs.size:=h
     exact U6 z1 this h9) nl,g5.ng,g5.size⟩
   refine agv (LF r5 B7 gg (zK (U7 z1)) aaa q5) ?_;intro pp agC H6 r6 v6 g6 q6 afF aj s6;refine ay Ae.ns ?_;intro m5 aaj aj;exact Kh _ _ s5 agC H6 pp m5 fl r6 v6 (g1.trans g6) aaj (λl e=>Ae.tJ l (afF l _ (nn (a:=((s1.heap.push oI).push o0).objs.size) (Ia z1 z2)) e)) (zK (by have:=g1.size;exact Ib z2 this)) q6
 exact eU _ _ _ _ _ _ loop (up (MN tE loop))
theorem Cq{C:aL}{m:Str->Option Value}(r:aW X β H s)(hn:s.heap.Ns C m)(hC:∀l,β l≠ae C)(hb:X.base.objs.size<=C)(hs:jW C s.heap h'):aW X β H {s with heap:=h'}/\Go (λa=>a=C) β β s.heap h':=by
 refine t7 hn ?_;clear hn;intro o es ep ho hd aj;have g:Go (λa=>a=C) β β s.heap h':=⟨λU U e=>e,λU U e=> .inl e,λb o e t U=>(hs.2 b t).trans e,λb o' e hh U=>(hs.2 b (λz=>by
  subst z;rw[ho]at e;obtain rfl:=so e;rcases hh with⟨_,_,h⟩|⟨_,_,h⟩<;>rw[hd]at h<;>exact jw (noConfusion_of_Nat uv h))).trans e,au hs.1.symm⟩
 exact⟨r.keep (s':={s with heap:=h'}) g (λa t=>t▸hb) (λi a e t=>(hC _ (t▸e)).elim) rfl rfl λl a U e=>hs.2 a (λz=>hC l (z▸e)),g⟩
end
end
section
section
variable{X:Fx}{n:Nat}{p:PV}
set_option tactic.hygienic true in
theorem pG{Ak:aJ->HP->(Bool->HP->Prop)->Prop}{rest Ad:aJ->aF->HP->(aJ->aF->HP->Prop)->Prop}(ht:∀ρ H Q,gt ρ H Q->Ak ρ H Q)(mt:∀ρ H Q Q',Ak ρ H Q->(∀b H,Q b H->Q' b H)->Ak ρ H Q')(hr:∀ρ acc H Q,rest ρ acc H Q->Ad ρ acc H Q)(mr:∀ρ acc H Q Q',Ad ρ acc H Q->(∀ρ acc H,Q ρ acc H->Q' ρ acc H)->Ad ρ acc H Q'):∀{xs:List PV} {ρ:aJ} {acc:aF} {H:HP} {Q Q':aJ->aF->HP->Prop},(∀ρ acc H,Q ρ acc H->Q' ρ acc H)->cw i0 gt rest dj xs ρ acc H Q->cw i0 Ak Ad dj xs ρ acc H Q':=by
 intro xs;induction xs with
 |nil=>
  intro _ _ _ _ _ hQ h;exact hQ _ _ _ h
 |cons x xs ih=>
  intro ρ acc H Q Q' hQ h;rw[cw]at h⊢;refine mt _ _ _ _ (ht _ _ _ h) λb H1 h1=>?_;split at h1
  ·rename_i hb
   refine aa (if_pos hb ..) ?_;exact mr _ _ _ _ _ (hr _ _ _ _ h1) λaU fe H' h2=>⟨h2.1,ih hQ h2.2⟩
  ·rename_i hb
   refine aa (if_neg hb ..) ?_;exact⟨h1.1,ih hQ h1.2⟩
theorem eX.mono{Q Q':Bool->HP->Prop}(h:eX X n env vm ifs ρ H Q)(i:∀b H,Q b H->Q' b H):eX X n env vm ifs ρ H Q':=by
 unfold eX at h⊢;split at h
 ·exact i _ _ h
 ·exact ic.mono h i
 ·exact h
theorem jE.mono{D:aL}{f:eL Unit}{Q:aJ->aF->HP->Prop}(h:jE X n env vm D k f ρ acc H Q)(i:∀ρ acc H,Q ρ acc H->Q' ρ acc H):jE X n env vm D k f ρ acc H Q':=λA β s ra r rf ac=>
 bP (h A β s ra r rf ac) (λU s' zq=>by rcases zq with⟨a,b,c,d,e,f,g,j,q⟩;exact⟨a,b,c,d,e,f,g,j,i _ _ _ q⟩) λU U x=>x
def fh(ev:aJ->HP->(PV->HP->Prop)->Prop):aJ->aF->HP->(aJ->aF->HP->Prop)->Prop:=λρ acc H Q=>match acc with
 |.list ps=>ps.length<aI/\ev ρ H λp H'=>Q ρ (.list (ps++[p])) H'
 |_=>False
def jN(ek ev:aJ->HP->(PV->HP->Prop)->Prop):aJ->aF->HP->(aJ->aF->HP->Prop)->Prop:=λρ acc H Q=>match acc with
 |.aH xs=>xs.length<aI/\ek ρ H λq H1=>ok (fO q) λkey=>ev ρ H1 λp H'=>Q ρ (.aH (dput xs key p)) H'
 |_=>False
theorem CI{D:aL}{Q:aJ->aF->HP->Prop}(K:lE X env vm D)(h:fh (λρ H Q=>bg X n env vm elt ρ H Q) ρ acc H Q):jE X n env vm D k (do let _<-call (.builtin "list.append") [.ref D,<-bU elt env]) ρ acc H Q:=by
 unfold fh at h;split at h
 ·exact XY K ⟨_,rfl,h.1,h.2⟩
 ·exact h.elim
theorem XZ{A:bG}(lo:X.base.objs.size<=s.heap.objs.size):∀D C s' az H' p m fl,aW X az H' s'->aN az s'.heap p (.ref D)->Go bO β az s.heap s'.heap->s'.heap.Ns C m->(∀l,az l≠ae C)->s.heap.objs.size<=C->Q p H'->
 Bc (bN X.prog X.w) A FF ai (bn X β s.heap Q) (.ref D) C (.ok fl) s':=by
 intro D C s' az H' p m fl r' vr g hn hC hle q;refine⟨m,hn,λh' hs=>?_⟩;refine aK (Cq r' hn hC (dC lo hle) hs) ?_;intro r2 g2;exact⟨p,az,H',r2,aN.go g2 _ _ vr,Go.drop (T:=bO) ((g.inl (I:=C)).trans g2.inr) hle,q⟩
theorem lV{d:Nat}{I D:aL}:(oS (.ListComp elt gens scope pos) d (.ref I) (.ref D) dH).quiet=ag/\(oS (.ListComp elt gens scope pos) d (.ref I) (.ref D) dH).isFrame=aq/\(∀A:bG,A.under (.compLoop (.ListComp elt gens scope pos) d (.ref I) (.ref D) dH)=A):=by
 cases d<;>exact⟨rfl,rfl,λU=>rfl⟩
theorem E4{d:Nat}{I D:aL}:(oS (.DictComp kx vx gens scope pos) d (.ref I) (.ref D) dH).quiet=ag/\(oS (.DictComp kx vx gens scope pos) d (.ref I) (.ref D) dH).isFrame=aq/\(∀A:bG,A.under (.compLoop (.DictComp kx vx gens scope pos) d (.ref I) (.ref D) dH)=A):=by
 cases d<;>exact⟨rfl,rfl,λU=>rfl⟩
noncomputable abbrev wf:Obj:={cls:=.type "list",dict:=ai,data:=.seq ([]:List Value).toArray}
noncomputable abbrev lI:Obj:={cls:=.type "dict",dict:=ai,data:=.dict #[]}
theorem DV:iT X β h (.list []) wf:=⟨[],_,rfl,rfl,by exact bR rfl⟩
theorem Cb{A:bG}(s:aV)(P:Value->aV->Prop)(h:P (.ref s.heap.objs.size) {s with heap:=s.heap.push wf}):Wp X A (Bk []) P s:=pk h
theorem Vr{A:bG}(s:aV)(P:Value->aV->Prop)(h:P (.ref s.heap.objs.size) {s with heap:=s.heap.push lI}):Wp X A newDict P s:=pk h
theorem CC:iT X β h (.aH []) lI:=by
 refine⟨[],⟨#[],0,⟨rfl,rfl,rfl⟩,rfl,?_,?_,by simp⟩,rfl,by exact bR rfl⟩
 ·intro e he;simp at he
 ·constructor
theorem Yq(O:cj X)(E:et X env)(V:jG env vm)(K:jZ env scope vm dL [(i0,x0)])(hs:fy iter=ag)(d0:ρ.getD i0 ai=ai)
 (h:bg X n env vm iter ρ H λp H1=>ok (itemsOf H1 p) λxs=>∀C D,lE X (eO scope env C) dL D->
   cw i0 (λρ H QB=>eX X n (eO scope env C) dL ifs ρ H QB) (fh λρ H Q=>bg X n (eO scope env C) dL elt ρ H Q) (λH'=>cD H1 H' p) xs ρ (.list []) H1 λU acc H'=>ku aY acc H' Q):
 bg X n env vm (.ListComp elt [⟨.Name x0 px,iter,ifs,0⟩] scope pos) ρ H Q:=by
 intro A β s ra r rf;rewrite[eval_ListComp];refine yD (use:=ai) (aY:=aY) (o0:=wf) (rest:=λD dH=>(do let _<-call (.builtin "list.append") [.ref D,<-bU elt dH])) (gens:=[]) (v7:=iter.pos) O E V K (eR.mpr rfl) hs rfl Ff Cb rfl (λU U=>DV)
  (λI D dH=>⟨lV.1,lV.2.1,lV.2.2,rfl⟩) (λi x hm=>by cases eR.mp hm;exact d0) ra r rf (h.mono λp H1 q=>?_) (XZ (X:=X) (A:=A) (Q:=Q) r.lo)
 rcases(cX q)with⟨xs,e,q⟩
 refine aa (e ..) ?_;intro C D k KA;refine pG (λU U U x=>x) ?_ ?_ ?_ (λU U U x=>x) (q C D KA)
 ·intro _ _ _ _ x i;exact eX.mono x i
 ·intro _ _ _ _ x;exact CI KA x
 ·intro _ _ _ _ _ x i;exact jE.mono x i
theorem XX{D:aL}{g0:qJ}{i1:Nat}{Q:aJ->aF->HP->Prop}(O:cj X)(K:lE X env vm D)(hx:vm.lookup i1=ae x1)(zt:env.kindOf x1=ae .local)(hs:fy fJ=ag)
 (h:bg X n env vm fJ ρ H λp H1=>ok (itemsOf H1 p) λxs=>
   cw i1 (λρ H QB=>eX X n env vm lO ρ H QB) (fh λρ H Q=>bg X n env vm elt ρ H Q) (λH'=>cD H1 H' p) xs ρ acc H1 Q):
 jE X n env vm D k (do
  let x<-bU fJ env
  gx fJ.pos
  let x<-Bg fJ env x
  let _<-runOwn (.compStart (.ListComp elt [g0,⟨.Name x1 nA,fJ,lO,0⟩] scope pos) 1 (<-fb [x] (pf x)) (.ref D) env) env) ρ acc H Q:=by
 intro A β s ra r rf ac;refine ax (h.run ra r rf λp v cN H1 s1 r1 cY vr g1 q=>?_);rcases(cX q)with⟨xs,eI,q⟩
 refine ax (fF (ax (xK (An hs v) (ax (cU (wa O.size r1 vr eI λoI r2 dE=>?_))))));have gI:Go bO cN cN s1.heap (s1.heap.push oI):=sa
 have pB:=ac.go r g1 (λz=>z);have qi:∀a,fn env a-> @sg Nat instLTNat a s1.heap.objs.size:=by
  intro a t;rcases t with rfl|⟨nm,e⟩
  ·(refine ay cY.ns ?_;intro m aj aB;refine fL aj ?_;clear aj;intro aS dv cO ho l5);exact cq ho
  ·(refine aK (cY.cells nm a e) ?_;intro aj aB;refine cZ aj ?_;clear aj;intro aS dv ho cO);exact cq ho
 have PN: @sg Nat instLTNat D s1.heap.objs.size:=by(refine ay pB.obj ?_;intro o ho aj);exact cq ho
 have loop:kM (bN X.prog X.w) A (.compLoop (.ListComp elt [g0,⟨.Name x1 nA,fJ,lO,0⟩] scope pos) 1 (.ref s1.heap.objs.size) (.ref D) env) (λr s'=>match r with|.ok _=>Bx X env vm D k cN s1.heap Q s'|.error _=>False) {s1 with heap:=s1.heap.push oI}:=by
  refine I3 (rest:=(do let _<-call (.builtin "list.append") [.ref D,<-bU elt env])) (q:=fJ.pos) (h0:=s1.heap) (g7:=cN) (H0:=H1) (p:=p) K hx zt lV.1 lV.2.1 lV.2.2 rfl ra eI r1.lo (bj _) (nn (B1 PN)) (λa t=>nn (by have:=qi a t;exact B1 this)) r2 (cY.ig (s':={s1 with heap:=s1.heap.push oI}) gI) (pB.go r1 gI (λz=>z)) gI.toT cD.refl (r1.mE (bj _)) 0 (cJ _) dE ?_;refine aa (wZ ..) ?_;refine pG (λU U U x=>x) ?_ ?_ ?_ (λU U U x=>x) q
  ·intro _ _ _ _ x i;exact eX.mono x i
  ·intro _ _ _ _ x;exact CI K x
  ·intro _ _ _ _ _ x i;exact jE.mono x i
 refine ax (wpAny_runOwn (pc (afz (X:=X) _ _ _ _ _ _ loop (up (MN dE loop))) λrr s' x=>?_));cases rr with
 |error e=>exact x.elim
 |ok fl=>
  rcases x with⟨az,H',aU,fe,r',cF,Vp,g',q'⟩
  exact aP ⟨az,H',aU,fe,r',cF,Vp,g1.toT.trans g',q'⟩
theorem ae1{I D:aL}:
 xy (.ListComp elt [⟨.Name x0 px,iter,ifs,0⟩,⟨.Name x1 nA,fJ,lO,0⟩] scope pos) 0 (.ref I) (.ref D) dH=wM (.ListComp elt [⟨.Name x0 px,iter,ifs,0⟩,⟨.Name x1 nA,fJ,lO,0⟩] scope pos) 0 I D dH x0 px iter.pos ifs (do
  let x<-bU fJ dH
  gx fJ.pos
  let x<-Bg fJ dH x
  let _<-runOwn (.compStart (.ListComp elt [⟨.Name x0 px,iter,ifs,0⟩,⟨.Name x1 nA,fJ,lO,0⟩] scope pos) 1 (<-fb [x] (pf x)) (.ref D) dH) dH):=by
 unfold xy wM;simp only[bind_assoc,pure_bind];rfl
theorem afx{t:Expr}(h:noStar t=ag):(assignEach [t] env).map (·.2)=[jB t env]:=by cases t<;>first|rfl|exact absurd h dG
theorem afm{t:Expr}{Q:Fl->aJ->HP->Prop}(ht:noStar t=ag)(om:ph e (ae t) pos.line env=pure aq)(eU:sK [t] e env=pure ai)
 (h:bg X n env vm e ρ H λp H1=>mX X n env vm t p ρ H1 λaU H'=>Q .next aU H'):iX X n env vm (.Assign [t] e pos) ρ H Q:=by
 intro A β s ra r rf;refine wpAny_Assign_stores (h.run ra r rf λp v cN H1 s1 r1 cY vr g1 q=>?_) om eU;refine aa (afx ht ..) ?_;exact bP (q A cN s1 v ra r1 cY vr) (λU s2 zq=>by rcases zq with⟨eK,H2,t9,r2,ir,g2,q2⟩;exact⟨eK,H2,t9,r2,ir,g1.toT.trans g2,q2⟩) λU U x=>x
set_option tactic.hygienic true in
theorem afv{t:Expr}{names:List Str}{Q:Fl->aJ->HP->Prop}(O:cj X)(om:ph e (ae t) pos.line env=pure aq)(eU:sK [t] e env=pure (ae names))
 (h:bg X n env vm e ρ H λp H1=>match p with|.tup ps=>names.length=ps.length/\sQ X n env vm (names.reverse.map λx=>bindName env x) ps.reverse ρ H1 λaU H'=>Q .next aU H'|_=>False):iX X n env vm (.Assign [t] e pos) ρ H Q:=by
 intro A β s ra r rf;rewrite[exec_Assign_arm];refine ax (fF (ax (xK om ?_)));simp only[dF,↓dy,if_false];refine ax (h.run ra r rf λp v cN H1 s1 r1 cY vr g1 q=>?_);split at q
 ·rename_i ps
  refine ax (xK eU ?_);unfold assignStores;dsimp only;refine aa (q.1 ..) ?_;refine ax (qS (ax (Nv O ra.hd rfl r1 vr rfl λvs h' tk r2 g2 v2=>?_)));have af7:bf cN h' ps.reverse vs.reverse:=by
   have key:∀{ps:List PV} {vs:List Value},bf cN h' ps vs->bf cN h' ps.reverse vs.reverse:=by
    intro ps;induction ps with
    |nil=>intro vs h;refine aa ((show vs=[]from h) ..) ?_;exact rfl
    |cons a r ih=>(intro _;intro aj;rcases aj with⟨v,cp,rfl,x,y⟩);(refine aa (sr ..) ?_;refine aa (sr ..) ?_);exact(ih y).append (.one x)
   exact key v2
  refine ax (bP (Nh q.2 ra r2 (cY.ig (s':={s1 with heap:=h',toks:=tk}) g2) af7) (λ_ s3 zq=>by rcases zq with⟨sf,H3,lv,r3,nB,g3,q3⟩;exact aP ⟨sf,H3,lv,r3,nB,(g1.trans g2).toT.trans g3,q3⟩) λ_ _ x=>x)
 ·exact q.elim
theorem afs{y:Str}{Q:Fl->aJ->HP->Prop}(O:cj X)(E:et X env)(V:jG env vm)(K:jZ env scope vm dL [(i0,x0)])(hs:fy iter=ag)(d0:ρ.getD i0 ai=ai)
 (om:ph (.ListComp elt [⟨.Name x0 px,iter,ifs,0⟩] scope pos) (ae (.Name y py)) r7.line env=pure ag)(N:nW env vm iy y)
 (h:bg X n env vm iter ρ H λp H1=>ok (itemsOf H1 p) λxs=>∀C D,lE X (eO scope env C) dL D->
   cw i0 (λρ H QB=>eX X n (eO scope env C) dL ifs ρ H QB) (fh λρ H Q=>bg X n (eO scope env C) dL elt ρ H Q) (λH'=>cD H1 H' p) xs ρ (.list []) H1 λU acc H'=>ku aY acc H' λp H2=>Q .next (aR ρ iy p) H2):
 iX X n env vm (.Assign [.Name y py] (.ListComp elt [⟨.Name x0 px,iter,ifs,0⟩] scope pos) r7) ρ H Q:=by
 intro A β s ra r rf;refine aa (GF _ _ _ _ om ..) ?_;refine ax (fF (ax ?_));refine(?_:Wp X A (do let _<-Bd (.ListComp elt [⟨.Name x0 px,iter,ifs,0⟩] scope pos) scope env _ (Bk []) aq (bU iter env) (ae (jB (.Name y py) env))) _ s);refine ax (bP (Q:=λU s'=>iV X env vm β s.heap Q .next s') (yD (use:=ae (jB (.Name y py) env)) (Q:=λp H2=>Q .next (aR ρ iy p) H2) (aY:=aY) (o0:=wf) (rest:=λD dH=>(do let _<-call (.builtin "list.append") [.ref D,<-bU elt dH])) (gens:=[]) (v7:=iter.pos) O E V K (eR.mpr rfl) hs rfl Ff Cb rfl (λU U=>DV)
  (λI D dH=>⟨lV.1,lV.2.1,lV.2.2,rfl⟩) (λi x hm=>by cases eR.mp hm;exact d0) ra r rf (h.mono λp H1 q=>?_) ?_) (λU U x=>aP (aP x)) λU U x=>x)
 ·rcases(cX q)with⟨xs,e,q⟩
  refine aa (e ..) ?_;intro C D k KA;refine pG (λU U U x=>x) ?_ ?_ ?_ (λU U U x=>x) (q C D KA)
  ·intro _ _ _ _ x i;exact eX.mono x i
  ·intro _ _ _ _ x;exact CI KA x
  ·intro _ _ _ _ _ x i;exact jE.mono x i
 ·intro D C s' az H' p m fl r' vr g hn hC hle q
  refine(?_:bm _ A (jB (.Name y py) env (.ref D)) _ _ _);have qi:∀a,fn env a-> @sg Nat instLTNat a s.heap.objs.size:=by
   intro a t;rcases t with rfl|⟨nm,e⟩
   ·(refine ay rf.ns ?_;intro m aj aB;refine fL aj ?_;clear aj;intro aS dv cO ho l5);exact cq ho
   ·(refine aK (rf.cells nm a e) ?_;intro aj aB;refine cZ aj ?_;clear aj;intro aS dv ho cO);exact cq ho
  have vt:¬fn env C:=λt=>by have:=qi C t;exact jV _ (iP this hle)
  refine bP (uU E V N q A az s' (.ref D) ra r' (rf.ig g) vr) (λU s2 zq=>?_) λU U x=>x;rcases zq with⟨eK,H2,t9,r2,ir,g2,q2⟩
  have cW:=g2.ns hn vt hC;have CZ:∀l,eK l≠ae C:=by(refine fL hn ?_;clear hn;intro o aj aB ho aS);exact g2.off ho hC
  refine⟨m,cW,λh' gm=>?_⟩;refine aK (Cq r2 cW CZ (dC r.lo hle) gm) ?_;intro r3 g3;exact⟨eK,H2,t9,r3,ir.go (s':={s2 with heap:=h'}) g3 (λa t z=>vt (z▸t)),Go.drop (((g.toT.trans g2).inl (I:=C)).trans g3.inr) hle,q2⟩
end
end
section
def ia(X:Fx)(n:Nat)(b:BI)(args:List PV)(H:HP)(Q:PV->HP->Prop):Prop:=
 ∀A β s vs,cE n A->aW X β H s->bf β s.heap args vs->Wp X A (call b.val vs) (bn X β s.heap Q) s
section
variable{X:Fx}{n:Nat}{p:PV}
theorem IG(b:BI):(b.str==("__debug__":Str))=aq:=by cases b<;>kernel_rfl
theorem IQ{A:bG}{E:Value->aV->Prop}{b:BI}{args:List (Bool×eL Value)}(hp:args.any (·.1)=aq)
 (h:bm (bN X.prog X.w) A (evalArgs b.val ag args []) (λa s₁=>bm (bN X.prog X.w) A (call b.val ([]++a.pos) a.kw) P E s₁) E s):bm (bN X.prog X.w) A (sE pos b.val [] args []) P E s:=by
 cases b
 case len=>exact xp hp h
 case sorted=>exact xp hp h
 case max=>exact xp hp h
 case sum=>exact xp hp h
 all_goals exact Pn hp h
theorem Yh{b:BI}{es:List Expr}(O:cj X)(E:et X env)(hs:es.all noStar=ag)(hk:env.kindOf b.str=ae .globalImplicit)
 (h:ib X n env vm es ρ H λps H'=>ia X n b ps H' Q):bg X n env vm (.Call (.Name b.str np) es [] pos) ρ H Q:=by
 intro A β s ra r rf;refine(?_:Wp X A (do sE pos (<-bU (.Name b.str np) env) [] (jC pos (iS es env)) (pb pos (pd [] env))) _ s);refine ax (wk O E r hk (IG b) (.inr (O.CR b)) ?_);refine IQ (plain_any hs) (td (plain_any hs) (h.run ra r rf λps vs az H' s' r' cF hv g hc=>?_));exact bP (hc A az s' vs ra r' hv) (λU U x=>x.trans g) λU U x=>x
noncomputable def intOf:PV->Option Int
 |.int i=>ae i
 |_=>ai
noncomputable def intsOf:List PV->Option (List Int)
 |[]=>ae []
 |p::ps=>match intOf p,intsOf ps with
  |some i,ae is=>ae (i::is)
  |_,_=>ai
set_option tactic.hygienic true in
theorem vZ:∀{ps:List PV} {ns:List Int},intsOf ps=ae ns->ps=ns.map PV.int:=by
 intro ps;induction ps with
 |nil=>
  intro _ e
  obtain rfl:=so e;rfl
 |cons p ps ih=>
  intro ns e;unfold intsOf at e;split at e
  ·rename_i i is h1 h2
   obtain rfl:=so e;refine aa (bB ..) ?_;refine aQ (ih h2 ..) ?_;cases p<;>simp only[intOf,reduceCtorEq,ut]at h1
   subst h1;rfl
  ·exact Internal.ns e
theorem DN:∀{ns:List Int} {vs:List Value},bf β h (ns.map PV.int) vs->qG vs ns:=by
 intro ns;induction ns with
 |nil=>
  intro _ e;refine aa ((show _=([]:List Value)from e) ..) ?_;exact .nil
 |cons n ns ih=>
  intro _ dW;rcases dW with⟨v,cp,e,⟨t,x⟩,r⟩
  (refine aa (e ..) ?_;refine aa (x ..) ?_);exact .cons n t (ih r)
theorem Ac:∀{ns:List Int} {vs:List Value},qG vs ns->bf β h (ns.map PV.int) vs:=by
 intro ns vs x;induction x with
 |nil=>exact rfl
 |cons n t r ih=>exact⟨_,_,rfl,⟨t,rfl⟩,ih⟩
noncomputable def qd(H:HP):PV->Option (List PV)
 |.tup ps=>ae ps
 |p=>listOf H p
theorem Al{ps:List PV}(hv:aN β s.heap (.tup ps) v):∃a vs n,v=.ref a/\s.heap.get? a=ae ⟨.type "tuple",ai,.seq (bT vs) n,#[]⟩/\bf β s.heap ps vs:=
 let⟨a,vs,n,e,ho,_,r⟩:=hv;⟨a,vs,n,e,ho,r⟩
theorem Wj(hz:x.length<=aI)(h:Q (.int x.length) H):ia X n .len [.str x] H Q:=by
 intro A β s vs ra r hv;rcases hv with⟨v,cp,rfl,⟨t,rfl⟩,e⟩
 refine aa ((show cp=[]from e) ..) ?_;have hL:aI=1000000:=rfl;exact PyProof.Rows.len_str (U8 hz hL) (bn.tok (tk:=s.toks+1+1) r oA h)
set_option tactic.hygienic true in
theorem Wi(e:qd H p=ae xs)(hz:xs.length<=aI)(h:Q (.int xs.length) H):ia X n .len [p] H Q:=by
 intro A β s vs ra r hv;rcases hv with⟨v,cp,rfl,x,e'⟩
 refine aa ((show cp=[]from e') ..) ?_;have hL:aI=1000000:=rfl;have other:listOf H p=ae xs->Wp X A (call BI.len.val [v]) (bn X β s.heap Q) s:=by
  intro e;rcases(iH r x e)with⟨a,vs,m,rfl,ho,rv⟩
  refine call_len_list (im ho) (by simp only[fu,rv.length];exact Ic hz hL) ?_;simp only[fu,rv.length];exact bn.tok (tk:=s.toks+1+1) r oA h
 cases p<;>first|exact other e|skip
 rename_i ps
 obtain rfl:=(so e).symm;refine fL (Al x) ?_;rintro a vs m rfl aB;refine aK aB ?_;clear aB;intro ho rv;refine PyProof.Rows.len_tuple (tD ho) (by simp only[fu,rv.length];exact Ic hz hL) ?_;simp only[fu,rv.length];exact bn.tok (tk:=s.toks+1+1) r oA h
theorem YJ(r:aW X β H s)(hk:∀b x,s.heap.get? b=ae x->h'.get? b=ae x):∀l,β l≠ae h'.objs.size:=λl e=>by
 have:∃o,s.heap.get? h'.objs.size=ae o:=by
  by_cases hp:l.cS=ag
  ·cases q:H.get l with
   |none=>rw[r.gU l hp q]at e;exact ns e
   |some po=>rcases(r.obj l po q)with⟨a,o,e1,e2,_⟩;rw[e]at e1;obtain rfl:=so e1;exact⟨o,e2⟩
  ·cases l<;>first|exact r.lU _ _ e|exact absurd rfl hp
 refine aM this ?_;clear this;intro o ho;exact jV _ (cq (hk _ _ ho))
theorem bn.acU{ps:List PV}{a:aL}(r:aW X β H s)(hv:bf β s.heap ps vs)
 (ha:∀l,β l≠ae a)(hk:∀b x,s.heap.get? b=ae x->h'.get? b=ae x)(hs:s.heap.objs.size<=h'.objs.size)(ho:h'.get? a=ae ⟨.type "tuple",ai,.seq (bT vs) m,#[]⟩)(q:Q (.tup ps) H):
 bn X β s.heap Q (.ref a) {s with heap:=h',toks:=tk}:=
 have g:Go bO β β s.heap h':=Go.of_keep hk hs
 ⟨_,β,H,r.grow hk hs,MD ho ha (bf.go g _ _ hv),g,q⟩
set_option tactic.hygienic true in
theorem Wz(e:qd H p=ae xs)(hz:xs.length<=aI)(h:Q (.tup xs) H):ia X n .tupleOf [p] H Q:=by
 intro A β s vs ra r hv;rcases hv with⟨v,cp,rfl,x,e'⟩
 refine aa ((show cp=[]from e') ..) ?_;have other:listOf H p=ae xs->Wp X A (call BI.tupleOf.val [v]) (bn X β s.heap Q) s:=by
  intro e;rcases(iH r x e)with⟨a,vs,m,rfl,ho,rv⟩
  refine jt (call_tuple_list (im ho) (λh' hk bW=>?_) (by simp only[fu,rv.length];have:=gP;exact Ie hz this));exact bn.acU (h':=h'.push _) (tk:=s.toks) r rv (YJ r hk) (λb x q=>cv _ (hk b x q)) bW (dw _ rfl) h
 cases p<;>first|exact other e|skip
 rename_i ps
 obtain rfl:=(so e).symm;refine fL (Al x) ?_;rintro a vs m rfl aB;refine aK aB ?_;clear aB;intro ho rv;exact call_tuple_tup (tD ho) (bn.same r x h)
end
end
section
noncomputable def insI(a:Int):List Int->List Int
 |[]=>[a]
 |b::r=>if a<=b then a::b::r else b::insI a r
noncomputable def lW:List Int->List Int
 |[]=>[]
 |a::r=>insI a (lW r)
theorem insI_perm(a:Int):∀l:List Int,(insI a l).Perm (a::l):=by
 intro l;induction l with
 |nil=>
  exact .refl _
 |cons b r ih=>
  unfold insI;split
  ·exact .refl _
  ·exact((ih).cons b).trans (.swap a b r)
theorem Fb:∀l:List Int,(lW l).Perm l:=by
 intro l;induction l with
 |nil=>
  exact .refl _
 |cons a r ih=>
  exact(insI_perm a (lW r)).trans ((ih).cons a)
set_option tactic.hygienic true in
theorem abz(a:Int):∀{l:List Int},l.Pairwise (·<= ·)->(insI a l).Pairwise (·<= ·):=by
 intro l;induction l with
 |nil=>
  intro _;simp[insI]
 |cons b r ih=>
  intro h;unfold insI;rw[nN]at h;split
  ·rename_i fH
   rewrite[nN];refine⟨λx hx=>?_,nN.mpr h⟩;rcases cH.mp hx with rfl|hx
   ·exact fH
   ·exact wW fH (h.1 x hx)
  ·rename_i fH
   rewrite[nN];refine⟨λx hx=>?_,ih h.2⟩;rcases cH.mp ((insI_perm a r).mem_iff.mp hx)with rfl|hx
   ·exact U9 fH
   ·exact h.1 x hx
theorem M4:∀l:List Int,(lW l).Pairwise (·<= ·):=by
 intro l;induction l with
 |nil=>
  exact .nil
 |cons a r ih=>
  exact abz a (ih)
theorem afe:∀{a b:List Int},a.Perm b->a.Pairwise (·<= ·)->b.Pairwise (·<= ·)->a=b:=λh ha hb=>PySem.W.lks_uniq h ha hb
section
variable{X:Fx}{n:Nat}{p:PV}
theorem ym{out:Array Value}:out=bT out.toList:=by rfl
theorem M5{β:bz}{s:aV}{vs:List Value}{ns:List Int}{aY:Option dn}(r:aW X β H s)(hl:ns.length<=aI)(q:eb aY ((lW ns).map PV.int) H Q){out:Array Value}{ip:List Int}(a1:qG out.toList ip)(a2:ip.Perm ns)(a3:ip.Pairwise (·<= ·))
 {D:aL}{h':Heap}{e tk:Nat}(hD:s.heap.objs.size<=D)(hk:∀b x,s.heap.get? b=ae x->h'.get? b=ae x)(hs:s.heap.objs.size<=h'.objs.size)(ho:h'.get? D=ae (iQ "list" out e)):bn X β s.heap Q (.ref D) {s with heap:=h',toks:=tk}:=by
 have en:ip=lW ns:=afe (a2.trans (Fb ns).symm) a3 (M4 ns);subst en;rw[ym (out:=out)]at ho;exact bn.pW (vs:=out.toList) r (Ac a1) hD hk hs ho q
theorem Wt{ns:List Int}(e:listOf H p=ae xs)(ei:intsOf xs=ae ns)(hz:ns.length<64)(q:eb aY ((lW ns).map PV.int) H Q):ia X n .sorted [p] H Q:=by
 intro A β s vs ra r hv;rcases hv with⟨v,cp,rfl,x,e'⟩
 refine aa ((show cp=[]from e') ..) ?_;rcases(iH r x e)with⟨a,ws,m,rfl,ho,rv⟩
 rw[vZ ei]at rv;have hlen:ws.length=ns.length:=by(refine aa (rv.length ..) ?_;rewrite[bp];rfl)
 refine jt (sorted_ints (im ho) (DN rv) (Ig hz hlen) λout ip a1 a2 a3 bW=>?_);refine aM (sortedAll_at s.heap ws out) ?_;intro e he;exact M5 (vs:=ws) (tk:=s.toks) r (by show _<=1000000;exact Ih hz) q a1 a2 a3 (qF _) (λb o h=>sortedAll_old h) bW he
theorem Wu{xs:List (Atom×PV)}{ns:List Int}(e:H.get l=ae (.aH xs))(ei:intsOf (xs.map λx=>x.1.pv)=ae ns)(hz:ns.length<64)(aaK:3<=X.base.objs.size)(q:eb aY ((lW ns).map PV.int) H Q):ia X n .sorted [.ak l] H Q:=by
 intro A β s vs ra r hv;rcases hv with⟨v,cp,rfl,x,e'⟩
 refine aa ((show cp=[]from e') ..) ?_;rcases(rn r x e)with⟨d,ys,rfl,hb,hd,he,nj⟩
 refine aM hd.dictAt ?_;intro ep kj;have abg:xs.length=ns.length:=by
  have:=congrArg sm (vZ ei);simpa using this
 have KQ:ys.length=ns.length:=by(refine aa (he.length ..) ?_;refine aa (abg ..) ?_;rfl)
 refine jt ?_;refine O1 kind_sorted plain_sorted entry_sorted (args_sorted1 _) ?_;unfold Builtin.«sorted»;refine ax (m:=checkCount "sorted" 1 1 _) (aP ?_);refine ax (jt (kdu_collect (A:=A.in1) (kdl_dict (knd:=fv X.prog X.w) (kvs:=ys) (ep:=ep) (qg aaK r hb)) ra.hd kj (by have:=gP;have:aI=1000000:=rfl;exact Ii hz KQ (by assumption) this) λh' tk acc hk jg aaT=>?_));have C6:acc.toList.length=ns.length:=by(refine aa (kG ..) ?_;refine aa (jg.1 ..) ?_;refine aa (KQ ..) ?_;rfl)
 refine ax (Bq ?_ (by have:=gP;have:aI=1000000:=rfl;exact Ii hz C6 (by assumption) this));have hI:qG acc.toList ns:=by
  have key:∀(l:List Value) (ns:List Int),l.length=ns.length->(∀j (hj:j<ns.length) v,l[j]? =ae v->∃t,v=.int ns[j] t)->qG l ns:=by
   intro l;induction l with
   |nil=>intro ns hl _;refine aa (mO.mp hl.symm ..) ?_;exact .nil
   |cons a r ih=>
    intro ns hl h;cases ns with
    |nil=>simp at hl
    |cons b t=>
     refine aM (h 0 (by exact bR rfl) a rfl) ?_;intro u hu;simp only[Ol]at hu;subst hu;exact .cons b u (ih t (by simpa using hl) λj hj v hv=>h (j+1) (by simpa using hj) v (by exact hv))
  refine key _ _ C6 λj hj v hv=>?_;rw[oO]at hv;refine cZ (jg.2 j v hv) ?_;intro k y h1 h2;have h3:(ys.map (·.1))[j]? =ae k:=by simp[h1]
  rw[he.keys]at h3;have h4:(xs.map λx=>x.1.pv)[j]? =ae k.pv:=by
   simp only[dB,i9]at h3⊢;refine ay h3 ?_;clear h3;intro z z1 z2;exact⟨z,z1,by(refine aa (z2 ..) ?_;rfl)⟩
  rw[vZ ei,dB,bV hj]at h4;simp only[mc,ut]at h4;cases k with
  |i z=>
   have:ns[j]=z:=by injection h4
   refine aa (this ..) ?_;exact oX h2
  |x z=>exact jw (noConfusion_of_Nat Internal.PV.ctorIdx h4)
 have Ds:(h'.push {cls:=.type "list",data:=.seq acc.toList.toArray}).get? h'.objs.size=ae (iQ "list" acc.toList.toArray 0):=dw _ rfl;refine ax (cU (qR Ge ⟨_,Ds,rfl⟩ Gb (list_sort_tree Ds hI (Ig hz C6) λout ip a1 a2 a3=>⟨_,rfl,?_⟩) (Ga _)));refine aP ⟨_,rfl,λbW=>?_⟩;refine aM (Gf (vs:=acc.toList) (out:=out) Ds) ?_;intro ec tt;refine M5 (vs:=acc.toList) r (by show _<=1000000;exact Ih hz) q a1 a2 a3 aaT (λb o h=>?_) bW tt;have bo:b<h'.objs.size:=cq (hk b o h);have aag:b<(h'.push {cls:=.type "list",data:=.seq acc.toList.toArray}).objs.size:=by rewrite[dI];exact su bo
 refine aa (Gg (dN bo) aag ..) ?_;exact cv _ (hk b o h)
end
end
section
section
variable{X:Fx}{n:Nat}{p:PV}
theorem Wk(e:qd H p=ae xs)(q:eb aY xs H Q):ia X n .listOf [p] H Q:=by
 intro A β s vs ra r hv;rcases hv with⟨v,cp,rfl,x,e'⟩
 refine aa ((show cp=[]from e') ..) ?_;have main:∀{a:aL} {T:String} {ws:List Value} {m:Nat},(T="list"\/T="tuple")->v=.ref a->s.heap.get? a=ae ⟨.type T,ai,.seq (bT ws) m,#[]⟩->bf β s.heap xs ws->Wp X A (call BI.listOf.val [v]) (bn X β s.heap Q) s:=by
  intro a T ws m hT ev ho rv;subst ev;refine jt (call_list_seq a hT ho rfl rfl (λh' c' hk dZ bW=>?_) (by have:=q.1;have:=gP;simp only[fu,rv.length];exact Ie (by assumption) this));exact bn.pW (tk:=s.toks) r rv (bj _) hk bW dZ q
 cases p with
 |tup ps=>
  obtain rfl:=(so e).symm;refine t7 (Al x) ?_;intro a ws m e1 ho rv;exact main (.inr rfl) e1 ho rv
 |lst ps=>
  rcases(iH r x e)with⟨a,ws,m,e1,ho,rv⟩
  exact main (.inl rfl) e1 ho rv
 |ak l=>
  rcases(iH r x e)with⟨a,ws,m,e1,ho,rv⟩
  exact main (.inl rfl) e1 ho rv
 |_=>exact ns e
theorem Wm(hz:k<=aI)(q:eb aY ((bw k).map λ(i:Nat)=>PV.int (i7 i)) H Q):ia X n .listOf [.eh k] H Q:=by
 intro A β s vs ra r hv;rcases hv with⟨v,cp,rfl,x,e'⟩
 refine aa ((show cp=[]from e') ..) ?_;refine wR x ?_;clear x;rintro a t u w rfl aB;refine eB aB ?_;clear aB;intro ho nl hn;have hL:aI=1000000:=rfl;refine jt (call_list_range (n:=k) ra.hd ho (MF hn) (by rewrite[rangeSize_one];split<;>(first|exact HE|exact HF (by assumption))) (Va hz hL) λh' tk acc c' hk dZ jg bW=>?_);have hI:qG acc.toList ((bw k).map λ(i:Nat)=>i7 i):=by
  have key:∀(l:List Value) (ns:List Int),l.length=ns.length->(∀j (hj:j<ns.length) v,l[j]? =ae v->∃t,v=.int ns[j] t)->qG l ns:=by
   intro l;induction l with
   |nil=>intro ns hl _;refine aa (mO.mp hl.symm ..) ?_;exact .nil
   |cons a r ih=>
    intro ns hl h;cases ns with
    |nil=>simp at hl
    |cons b t=>
     refine aM (h 0 (by exact bR rfl) a rfl) ?_;intro u hu;simp only[Ol]at hu;subst hu;exact .cons b u (ih t (by simpa using hl) λj hj v hv=>h (j+1) (by simpa using hj) v (by exact hv))
  refine key _ _ (by(refine aa (kG ..) ?_;refine aa (jg.1 ..) ?_);simp) λj hj v hv=>?_;rw[oO]at hv;refine aM (jg.2 j v hv) ?_;intro t e;refine⟨t,?_⟩;refine aa (e ..) ?_
  congr 1
  simp
 rw[ym (out:=acc)]at dZ;have vR:bf β s.heap ((bw k).map λ(i:Nat)=>PV.int (i7 i)) acc.toList:=by
  have:=Ac (β:=β) (h:=s.heap) hI;rw[cB]at this;exact this
 exact bn.pW r vR (bj _) hk bW dZ q
theorem Ws{i:Int}(h0:0<=i)(h1:i<1000000000)(h:Q (.eh i.toNat) H):ia X n .range [.int i] H Q:=by
 intro A β s vs ra r hv;rcases hv with⟨v,cp,rfl,⟨t,rfl⟩,e'⟩
 refine aa ((show cp=[]from e') ..) ?_;refine call_range_1 ?_;refine aM (N0 h0) ?_;rintro j rfl;have up:∀(o:Obj) b x,s.heap.get? b=ae x->(s.heap.push o).get? b=ae x:=λo b x q=>cv _ q;exact⟨.eh j,β,H,r.grow (up _) (by rewrite[dI];exact gQ),⟨s.heap.objs.size,s.toks,t,s.toks+1,rfl,dw _ rfl,r.mE (bj _),Vb h1⟩,sa,h⟩
theorem Wg{i:Int}(h:Q (.int i) H):ia X n .intOf [.int i] H Q:=by
 intro A β s vs ra r hv;rcases hv with⟨v,cp,rfl,⟨t,rfl⟩,e'⟩
 refine aa ((show cp=[]from e') ..) ?_;exact call_int_int (bn.same r oA h)
theorem Wh{i:Int}(hl:x.length<=640)(e:uC x=ae i)(h:Q (.int i) H):ia X n .intOf [.str x] H Q:=by
 intro A β s vs ra r hv;rcases hv with⟨v,cp,rfl,⟨t,rfl⟩,e'⟩
 refine aa ((show cp=[]from e') ..) ?_;exact PySem.W.KIN.call_text e hl (bn.tok (tk:=s.toks+1) r oA h)
theorem Wv{i:Int}(hi:i.natAbs<1000000000)(h:Q (.str (toString i)) H):ia X n .strOf [.int i] H Q:=by
 intro A β s vs ra r hv;rcases hv with⟨v,cp,rfl,⟨t,rfl⟩,e'⟩
 refine aa ((show cp=[]from e') ..) ?_;refine PySem.P.str_of_int ?_ (bn.tok (tk:=s.toks+1) r rV h);rcases F0 i.natAbs with h0|h0
 ·refine aa (h0 ..) ?_;decide
 ·have:=(F3 (n:=i.natAbs) (k:=30) (Ij h0)).mpr (Ik hi)
  exact Il this
theorem ad9{ns:List Int}:preSum (λi=>ns.getD i 0) ns.length=ns.sum:=by
 have key:∀(ns:List Int) (k:Nat),k<=ns.length->preSum (λi=>ns.getD i 0) k=(ns.take k).sum:=by
  intro ns k;induction k with
  |zero=>intro _;rfl
  |succ k ih=>
   intro hk;have bo:k<ns.length:=Im hk;refine(?_:preSum _ k+_=_);refine aa (ih (yf hk) ..) ?_;refine aa (kK ..) ?_;refine aa (bV bo ..) ?_;refine aa (List.sum_append ..) ?_;simp[da,bV bo]
 refine aa (key ns _ (bj _) ..) ?_;refine aa (kL ..) ?_;rfl
theorem Ww{ns:List Int}(e:listOf H p=ae xs)(ei:intsOf xs=ae ns)(h:Q (.int ns.sum) H):ia X n .sum [p] H Q:=by
 intro A β s vs ra r hv;rcases hv with⟨v,cp,rfl,x,e'⟩
 refine aa ((show cp=[]from e') ..) ?_;rcases(iH r x e)with⟨a,ws,m,rfl,ho,rv⟩
 rw[vZ ei]at rv;have hlen:ws.length=ns.length:=by(refine aa (rv.length ..) ?_;rewrite[bp];rfl)
 refine jt (call_sum_walkG (uG (im ho) ⟨_,_,_,_,_,_,λi=>ns.getD i 0,rfl,uz (A:=A.in1) ra.hd s.heap.objs.size a (dN (cq ho)) (bT ws),qw ⟨_,dw _ rfl,rfl,rfl⟩ ((im ho).push _),λb hb=>?_,λi v hi=>?_,λh' tk t' hk bW=>?_⟩))
 ·rewrite[dI]
  simp only[cH,FV,or_false]at hb;rcases hb with rfl|rfl
  ·exact xe _
  ·exact su (cq ho)
 ·exact(DN rv).int_at i v (by simpa using hi)
 ·simp only[fu,hlen,ad9]
  refine⟨.int ns.sum,β,H,r.grow (λb x q=>hk b x ?_ (cv _ q)) bW,oA,Go.of_keep (λb x q=>hk b x ?_ (cv _ q)) bW,h⟩<;>
   (simp only[eR];exact dN (cq q))
theorem argBest_lt{bt:Nat->Nat->Bool}:∀k,A7 bt k<=k:=by
 intro k;induction k with
 |zero=>
  exact bj _
 |succ k ih=>
  unfold A7;split
  ·exact bj _
  ·exact F1 (ih)
theorem Wq{ns:List Int}(e:listOf H p=ae xs)(ei:intsOf xs=ae ns)(dJ:ns≠[])(h:∀m∈ns,Q (.int m) H):ia X n .max [p] H Q:=by
 intro A β s vs ra r hv;rcases hv with⟨v,cp,rfl,x,e'⟩
 refine aa ((show cp=[]from e') ..) ?_;rcases(iH r x e)with⟨a,ws,m,rfl,ho,rv⟩
 rw[vZ ei]at rv
 have hI:=DN rv;have hlen:ws.length=ns.length:=by(refine aa (rv.length ..) ?_;rewrite[bp];rfl)
 have Zf:a≠s.heap.objs.size:=dN (cq ho);have zn:0<ns.length:=Oo.mpr dJ;refine jt (call_max_walk (uG (im ho) ⟨_,_,_,_,_,_,λi j=>decide (ns.getD i 0>ns.getD j 0),rfl,uz (A:=A.in1) ra.hd s.heap.objs.size a Zf (bT ws),qw ⟨_,dw _ rfl,rfl,rfl⟩ ((im ho).push _),λb hb=>?_,(by simp only[fu];exact Vd hlen zn),CmpOf.ints_gt (λi=>ns.getD i 0) (λi v hi=>hI.int_at i v (by simpa using hi)),λv h' tk hp hk bW=>?_⟩))
 ·rewrite[dI]
  simp only[cH,FV,or_false]at hb;rcases hb with rfl|rfl
  ·exact xe _
  ·exact su (cq ho)
 ·simp only[fu]at hp
  refine aM (hI.int_at _ v (by simpa using hp)) ?_;rintro t rfl;have bo:A7 (λi j=>decide (ns.getD i 0>ns.getD j 0)) (ws.length - 1)<ns.length:=by have:=argBest_lt (bt:=λi j=>decide (ns.getD i 0>ns.getD j 0)) (ws.length - 1);exact Ve hlen zn this
  have hm:ns.getD (A7 (λi j=>decide (ns.getD i 0>ns.getD j 0)) (ws.length - 1)) 0∈ns:=by
   (refine aa (da ..) ?_;refine aa (bV bo ..) ?_);exact ly bo
  refine⟨.int _,β,H,r.grow (λb x q=>hk b x ?_ (cv _ q)) bW,oA,Go.of_keep (λb x q=>hk b x ?_ (cv _ q)) bW,h _ hm⟩<;>
   (simp only[eR];exact dN (cq q))
end
end
section
set_option genSizeOf false
set_option genSizeOfSpec false
set_option genInjectivity false
noncomputable def LM.str:LM->Str
 |.append=>"append"|.extend=>"extend"|.pop=>"pop"|.get=>"get"|.li=>"setdefault"|.jI=>"pop"|.isspace=>"isspace"
noncomputable def LM.id:LM->String
 |.append=>"list.append"|.extend=>"list.extend"|.pop=>"list.pop"|.get=>"dict.get"|.li=>"dict.setdefault"|.jI=>"dict.pop"|.isspace=>"str.isspace"
noncomputable def LM.ty:LM->String
 |.append|.extend|.pop=>"list"|.get|.li|.jI=>"dict"|.isspace=>"str"
theorem acF(m:LM):Slot m.ty m.str m.id:=by
 cases m
 ·exact slot_list_append
 ·exact O8
 ·exact O9
 ·exact O5
 ·exact O7
 ·exact O6
 ·exact PySem.F.slot_str_isspace
theorem acC(m:LM):PlainAttrs m.ty:=by
 cases m
 ·exact Gp
 ·exact Gp
 ·exact Gp
 ·exact Gn
 ·exact Gn
 ·exact Gn
 ·exact PySem.F.plainAttrs_str
theorem acH(m:LM):typeOf (.builtin m.id)=pure (.type "method_descriptor"):=by
 cases m
 ·exact type_list_append
 ·exact PySem.F.type_list_extend
 ·exact PySem.F.type_list_pop
 ·exact PySem.F.type_dict_get
 ·exact PySem.F.type_dict_setdefault
 ·exact PySem.F.type_dict_pop
 ·exact PySem.F.type_str_isspace
def oG(m:LM)(p:PV)(H:HP):Prop:=match m with
 |.append|.extend|.pop=>match p with
  |.ak l=>match H.get l with
   |some (.list _)=>True
   |_=>False
  |_=>False
 |.get|.li|.jI=>match p with
  |.ak l=>match H.get l with
   |some (.aH _)=>True
   |some (.bL _)=>True
   |_=>False
  |_=>False
 |.isspace=>match p with
  |.str _=>True
  |_=>False
def nV(X:Fx)(n:Nat)(m:LM)(p:PV)(args:List PV)(H:HP)(Q:PV->HP->Prop):Prop:=
 ∀A β s v vs,cE n A->aW X β H s->aN β s.heap p v->bf β s.heap args vs->Wp X A (call (.builtin m.id) (v::vs)) (bn X β s.heap Q) s
section
variable{X:Fx}{n:Nat}{p:PV}
set_option tactic.hygienic true in
theorem aey{m:LM}(r:aW X β H s)(x:aN β s.heap p v)(h:oG m p H):s.TypeIs v m.ty/\∀a,v=.ref a->∃o,s.heap.get? a=ae o/\o.dict=ai:=by
 have lst:∀l,p=.ak l->∀ps,H.get l=ae (.list ps)->s.TypeIs v "list"/\∀a,v=.ref a->∃o,s.heap.get? a=ae o/\o.dict=ai:=by
  intro l e ps q;subst e;rcases(iH (ps:=ps) r x (DW q))with⟨a,vs,k,rfl,ho,_⟩
  exact⟨⟨_,ho,rfl⟩,λb e=>by obtain rfl:=oZ e;exact⟨_,ho,rfl⟩⟩
 have dA:∀l,p=.ak l->∀ps,H.get l=ae (.aH ps)->s.TypeIs v "dict"/\∀a,v=.ref a->∃o,s.heap.get? a=ae o/\o.dict=ai:=by
  intro l e ps q;subst e;rcases(rn r x q)with⟨a,ys,rfl,hb,⟨o,es,ep,ho,hx,_⟩,_⟩
  exact⟨⟨o,ho,hx.1⟩,λb e=>by obtain rfl:=oZ e;exact⟨_,ho,hx.2.1⟩⟩
 have dT:∀l,p=.ak l->∀ps,H.get l=ae (.bL ps)->s.TypeIs v "dict"/\∀a,v=.ref a->∃o,s.heap.get? a=ae o/\o.dict=ai:=by
  intro l e ps q;subst e;rcases(u9 r x q)with⟨a,ys,rfl,hb,⟨o,es,ep,ho,hx,_⟩,_⟩
  exact⟨⟨o,ho,hx.1⟩,λb e=>by obtain rfl:=oZ e;exact⟨_,ho,hx.2.1⟩⟩
 unfold oG at h;cases m<;>dsimp only at h
 case isspace=>
  split at h
  ·(refine aM x ?_;clear x;rintro t rfl)
   exact⟨GO s _ t,λa e=>by exact jw (noConfusion_of_Nat PySem.Value.ctorIdx e)⟩
  ·exact h.elim
 all_goals (
  split at h
  ·rename_i l
   split at h
   ·rename_i q
    first|exact lst _ rfl _ q|exact dA _ rfl _ q
   all_goals first|exact h.elim|(rename_i q;exact dT _ rfl _ q)
  ·exact h.elim)
theorem Yr{o:Expr}{m:LM}{es:List Expr}{apos:f0}(O:cj X)(ho:rT o=ag)(hs:es.all noStar=ag)(hl:es.length<30)(hp:(apos.endLine==pos.line)=ag)
 (h:bg X n env vm o ρ H λp H1=>oG m p H1/\ib X n env vm es ρ H1 λps H'=>nV X n m p ps H' Q):bg X n env vm (.Call (.Attribute o m.str apos) es [] pos) ρ H Q:=by
 intro A β s ra r rf;show Wp X A (do
  let ov<-A8 o m.str env (bU o env)
  gx apos.atName
  Bi o m.str apos pos env ov (es.length+0) (jC pos (iS es env)) (pb pos (pd [] env))) _ s
 refine aa (Ci ho ..) ?_;refine h.bind ra r rf λp v az H' s' r' cF vr g zq=>?_;refine aK zq ?_;clear zq;intro q1 q2;refine ax (fF ?_);have Dg:Bj (es.length+0) (jC pos (iS es env)) (pb pos (pd [] env))=ag:=by
  unfold Bj;refine aa (plain_all hs ..) ?_;refine(?_:(ag&&ag&&decide (es.length+0+0<30))=ag);simp;exact Hs hl
 unfold Bi;refine aa (Dg ..) ?_;refine ax (cU ?_);refine(?_:Wp X A (getMethod v m.str _) _ s');refine aK (aey r' vr q1) ?_;intro hT hd;refine getMethod_builtin hT (acC m) (acF m) (acH m) hd ?_;refine ax ?_;unfold methodCallPos;simp only[nJ,FC,hp,↓fw,if_true];refine aP ?_;refine xp (plain_any hs) (td (plain_any hs) (q2.run ra r' cF λps vs eK H2 s2 r2 ir hv g2 hc=>?_));exact bP (hc A eK s2 v vs ra r2 (aN.go g2 _ _ vr) hv) (λU U x=>(x.trans g2).trans g) λU U x=>x
theorem DX(r:aW X β H s)(x:aN β s.heap (.ak l) v)(e:H.get l=ae (.list xs)):
 ∃a vs m,v=.ref a/\β l=ae a/\s.heap.get? a=ae ⟨.type "list",ai,.seq (bT vs) m,#[]⟩/\bf β s.heap xs vs/\xs.length<=aI:=by
 refine cb x ?_;clear x;intro a e1 e2 aj;rcases(r.obj l _ e)with⟨a',o,e3,e4,vs,m,e5,e6,e7⟩
 rw[e2]at e3;obtain rfl:=so e3;exact⟨a,vs,m,e1,e2,e5▸e4,e6,e7⟩
theorem E7{a:aL}{qu:List PV}{f:Array Value->Array Value}{w:Value}(r:aW X β H s)(hp:l.cS=ag)(hb:β l=ae a)(ho:s.heap.get? a=ae ⟨.type "list",ai,.seq items m,#[]⟩)
 (hv:bf β s.heap qu (f items).toList)(hz:qu.length<=aI)(hw:aN β s.heap q w)(hq:Q q (H.set (.list qu) l)):bn X β s.heap Q w {s with heap:=s.heap.update a (lB f),toks:=tk}:=by
 have hs:jW a s.heap (s.heap.update a (lB f)):=ja ..;have dZ:(s.heap.update a (lB f)).get? a=ae ⟨.type "list",ai,.seq (f items) (if(f items).size==items.size then m else m+1),#[]⟩:=get?_update_seq ho f;have g:Go bO β β s.heap (s.heap.update a (lB f)):=Go.pZ hp hb hs;rw[ym (out:=f items)]at dZ;exact⟨q,β,_,r.set (ky:=.list qu) hp hb hs dZ ⟨_,_,rfl,bf.go g _ _ hv,hz⟩,aN.go g _ _ hw,g,hq⟩
theorem acu(e:H.get l=ae (.list xs))(hz:xs.length<aI)(h:Q .none (H.set (.list (xs++[q])) l)):nV X n .append (.ak l) [q] H Q:=by
 intro A β s v vs ra r x hv;rcases hv with⟨w,cp,rfl,y,e'⟩
 refine aa ((show cp=[]from e') ..) ?_;refine fL (DX r x e) ?_;rintro a ws m rfl aB;refine mJ aB ?_;clear aB;intro hb ho rv pT;refine Ba slot_list_append ⟨_,ho,rfl⟩ entry_list_append (args_list_append _ _) (PySem.list_append a (bT ws) m w (by have:=gP;simp only[fu,rv.length];exact B2 hz this)) ⟨ho,?_⟩;exact E7 (qu:=xs++[q]) r (HP.cS e) hb ho (by simpa using rv.append (.one y)) (by simp;exact pA hz) wC h
theorem acx{ys:List PV}(e:H.get l=ae (.list xs))(e2:listOf H q=ae ys)(hz:xs.length+ys.length<=aI)(h:Q .none (H.set (.list (xs++ys)) l)):nV X n .extend (.ak l) [q] H Q:=by
 intro A β s v vs ra r x hv;rcases hv with⟨w,cp,rfl,y,e'⟩
 refine aa ((show cp=[]from e') ..) ?_;refine fL (DX r x e) ?_;rintro a ws m rfl aB;refine mJ aB ?_;clear aB;intro hb ho rv pT;rcases(iH r y e2)with⟨b,us,k,rfl,hu,ru⟩
 have hL:aI=1000000:=rfl
 have Dv:=gP;have bW:(bT ws).size+(bT us).size<=1000000:=by simp only[fu,rv.length,ru.length];exact Vf hz hL
 refine Ba O8 ⟨_,ho,rfl⟩ PySem.F.entry_list_extend (PySem.F.args_list_extend_2 _ _) (AutoSeq1.list_extend_list_list_0 a (bT ws) m b (bT us) k ?_ (Vg hL Dv bW) (Vh hL Dv bW)) ⟨ho,hu,?_⟩
 ·have:O0 ((bT ws).size+(bT us).size)=aq:=by
   unfold O0;simp only[decide_eq_false_iff_not,fu];exact Vi hz Dv rv.length ru.length
  refine aa (this ..) ?_;simp
 ·exact E7 (qu:=xs++ys) r (HP.cS e) hb ho (by simpa using rv.append ru) (by simp;exact Io hz) wC h
theorem acD(e:H.get l=ae (.list (xs++[q])))(h:Q q (H.set (.list xs) l)):nV X n .pop (.ak l) [] H Q:=by
 intro A β s v vs ra r x hv;refine aa ((show vs=[]from hv) ..) ?_;refine fL (DX r x e) ?_;rintro a ws m rfl aB;refine mJ aB ?_;clear aB;intro hb ho rv pT;have hL:aI=1000000:=rfl;have hlen:ws.length=xs.length+1:=by refine aa (rv.length ..) ?_;exact bS
 refine ay (rv.get (i:=xs.length) (p:=q) (by exact nL)) ?_;intro y hy ry;refine Ba O9 ⟨_,ho,rfl⟩ PySem.F.entry_list_pop (PySem.F.args_list_pop_1 _) (agJ a (bT ws) m y (by refine aa ((show(bT ws).size - 1=xs.length from by simp[hlen]) ..) ?_;refine aa (AE ..) ?_;exact hy) (by simp only[fu,hlen];simp at pT;exact Vj gP pT)) ⟨ho,?_⟩;refine E7 (tk:=s.toks) (qu:=xs) r (HP.cS e) hb ho ?_ (by simp at pT;exact yf pT) ry h
 have ht:=bf.take xs.length rv;rw[List.take_left' rfl]at ht;have he:((bT ws).eraseIdxIfInBounds ((bT ws).size - 1)).toList=ws.take xs.length:=by
  have h1:(bT ws).size - 1=xs.length:=by simp[hlen]
  refine aa (h1 ..) ?_;rewrite[Array.eraseIdxIfInBounds];refine aa (dif_pos (by simp[hlen]) ..) ?_;simp only[List.eraseIdx_toArray]
  (rewrite[List.eraseIdx_eq_take_drop_succ];refine aa (N9 (Vk hlen) ..) ?_;rewrite[kI];rfl)
 refine aa (he ..) ?_;exact ht
theorem acy{xs:List (Atom×PV)}{k:Atom}(hs:3<=X.base.objs.size)(e:H.get l=ae (.aH xs))(ek:fO q=ae k)(h:Q ((bc xs k).getD .none) H):nV X n .get (.ak l) [q] H Q:=by
 intro A β s v vs ra r x hv;rcases hv with⟨w,cp,rfl,y,e'⟩
 refine aa ((show cp=[]from e') ..) ?_;rcases(rn r x e)with⟨d,ys,rfl,hb,hd,he,nj⟩
 rw[rh ek]at y;refine call_meetsIn O5 hd.typeIs PySem.F.entry_dict_get (PySem.F.args_dict_get_2 _ _) (meets_dict_get (fv X.prog X.w) d (n0 y) (qg hs r hb)) ⟨_,hd.mapOf,?_⟩;rcases he.get k with⟨e1,e2⟩|⟨p,v,e1,e2,e3⟩
 ·rw[e1]at h
  refine aa (e2 ..) ?_;exact bn.tok (tk:=s.toks+1) r wC h
 ·rw[e1]at h
  refine aa (e2 ..) ?_;exact bn.tok (tk:=s.toks+1) r e3 h
theorem acw{xs:List (Atom×PV)}{k:Atom}{p:PV}(e:H.get l=ae (.aH xs))(ek:fO q=ae k)(eg:bc xs k=ae p)(h:Q p (H.set (.aH (fg xs k)) l)):nV X n .jI (.ak l) [q] H Q:=by
 intro A β s v vs ra r x hv;rcases hv with⟨w,cp,rfl,y,e'⟩
 refine aa ((show cp=[]from e') ..) ?_;rcases(rn r x e)with⟨d,ys,rfl,hb,hd,he,nj⟩
 rw[rh ek]at y;rcases he.get k with⟨e1,_⟩|⟨p',v,e1,e2,e3⟩
 ·rw[e1]at eg;exact ns eg
 rw[e1]at eg;obtain rfl:=(so eg).symm;have aay:(keyPart w).isSome=ag:=by
  cases k<;>(refine aM y ?_;clear y;rintro t rfl)<;>rfl
 refine call_meetsIn O6 hd.typeIs PySem.F.entry_dict_pop (PySem.F.args_dict_pop_2 _ _) (meets_dict_pop_there (fv X.prog X.w) d (n0 y) [] (.inl rfl) aay) ⟨ys,v,hd,by have:=he.length;have:=gP;exact Vl nj (by assumption) this,e2,λh' fI fS=>?_⟩;refine ay (qL.mp fI) ?_;intro o ho ni;have g:Go bO β β s.heap h':=Go.pZ (HP.cS e) hb fS;exact⟨p,β,_,r.set (tk:=s.toks+1) (ky:=.aH (fg xs k)) (HP.cS e) hb fS ho ⟨_,ni,he.del.go g,(dC (um _ _) nj)⟩,aN.go g _ _ e3,g,h⟩
theorem XF{K:Type}[DecidableEq K]{knd:HeapKind prog w K}{A:bG}{E:Value->aV->Prop}{d a:aL}{xs:List (K×aL×Value)}{k:K}{dflt:Value}
 (hu:knd.room A)(rA:knd.is s.heap k a)(hm:s.heap.DictOfH knd d xs)(hz:xs.length<=sizeLine)(h1:∀b v,mW xs k=ae (b,v)->P v {s with toks:=s.toks+knd.draws k})
 (h2:mW xs k=ai->∀h',h'.DictOfH knd d (xs++[(k,a,dflt)])->jW d s.heap h'->P dflt {s with heap:=h',toks:=s.toks+knd.draws k}):bm (bN prog w) A (GE d (.ref a) dflt) P E s:=by
 refine NL hm ?_;clear hm;intro o es ep ho hc hd he zd hn;unfold GE;refine cU (ax (knd.pyHash hu rA ?_));refine ax (wpAny_dictFind_heap (s:={s with toks:=s.toks+knd.draws k}) hu rA ho hd he zd hn ?_ ?_)
 ·intro ik
  refine ax (qS (ax (wpAny_updateDictKeys (hz:=by have e:=size_of_entries he;exact Vn hz e) (s:={s with toks:=s.toks+knd.draws k}) ho hd (aP (h2 (atKey_none_of_get ik) _ ⟨_,_,ep+1,nP _ ho (Obj.isFreed_of_dict (Pd hd _)),
   hc.mapDictKeys _,Pd hd _,?_,?_,?_⟩ (ja ..))))))
  ·simp[he,entryOfKey]
  ·intro x hx
   rcases d8.mp hx with hx|hx
   ·exact knd.keeps (zd x hx) ho hd (ja ..)
   ·simp only[eR]at hx
    subst hx;exact knd.keeps rA ho hd (ja ..)
  ·(refine aa (iN ..) ?_;rewrite[l7])
   refine⟨hn,by exact qD _ _,?_⟩;intro x hx y hy;simp only[bB,ci,eR]at hy;subst hy;exactλe=>not_mem_keys_of_get ik (e▸hx)
 ·intro j p hj
  refine ax (wpAny_dictEntries (s:={s with toks:=s.toks+knd.draws k}) ho hd ?_);refine aa (entry_at he j ..) ?_;refine aa (hj ..) ?_;exact ax (qS (aP (h1 p.1 p.2 (atKey_of_get hn hj))))
theorem fM.length:∀{xs:List (List Atom×PV)} {ys:List (List Atom×aL×Value)},fM X β h xs ys->ys.length=xs.length:=by
 intro xs;induction xs with
 |nil=>
  intro _ e;refine aa ((show _=([]:List (List Atom×aL×Value))from e) ..) ?_;rfl
 |cons _ _ ih=>
  intro _ dW;rcases dW with⟨_,_,_,e,_,_,r⟩
  refine aa (e ..) ?_;refine aa (dX ..) ?_;refine aa (dX ..) ?_;refine aa (ih r ..) ?_;rfl
theorem acE{xs:List (List Atom×PV)}{k:List Atom}{p:PV}(hs:3<=X.base.objs.size)(e:H.get l=ae (.bL xs))(ek:keyOf q=ae k)(hz:xs.length<aI)
 (h:match bc xs k with|some z=>Q z H|none=>Q p (H.set (.bL (dput xs k p)) l)):nV X n .li (.ak l) [q,p] H Q:=by
 intro A β s v vs ra r x hv;rcases hv with⟨w,cp,rfl,y,w2,agh,rfl,z,e'⟩
 refine aa ((show agh=[]from e') ..) ?_;rcases(u9 r x e)with⟨d,ys,rfl,hb,hd,he,nj⟩
 rw[zG ek]at y;refine aM (let⟨a,_,_,e,_,_,_⟩:=y;⟨a,e⟩:∃a,w=.ref a) ?_;rintro ka rfl;refine qR O7 hd.typeIs PySem.F.entry_dict_setdefault ?_ (PySem.F.args_dict_setdefault_3 _ _ _);unfold Builtin.«dict.setdefault»;refine ax ?_;unfold Builtin.Dict.keyAndDefault;refine ax (PB hd.typeIs ?_);refine(?_:bm _ _ (pure (d,sC ka,ae w2)) _ _ s);refine aP ?_;refine(?_:bm _ _ (if(d==sysModules)=ag then _ else(GE d (.ref ka) w2>>=_)) _ _ s);refine aa (if_neg (by refine aa ((qg hs r hb) ..) ?_;exact dG) ..) ?_;refine ax (XF (knd:=pi (fv X.prog X.w)) ra.u1 (rG y) hd (by have:=he.length;have:=gP;exact uP hz (by assumption) this) (λb v hv=>aP ⟨v,rfl,?_⟩) λhn h' fI fS=>aP ⟨w2,rfl,?_⟩)
 ·rcases yI k he with⟨e1,e2⟩|⟨pz,a2,v2,e1,e2,e3⟩
  ·rw[e2]at hv;exact ns hv
  ·rw[e2]at hv;cases hv
   rw[e1]at h;exact bn.tok (tk:=s.toks+_) r e3 h
 ·rcases yI k he with⟨e1,e2⟩|⟨pz,a2,v2,e1,e2,e3⟩
  ·rw[e1]at h
   have g:Go bO β β s.heap h':=Go.pZ (HP.cS e) hb fS
   have eU:=he.stored (k:=k) z y;rw[storedH_new e2]at eU;refine ay (Jb (xs:=dput xs k p) fI (eU.go g) (by have:=n6 xs k p;exact ye hz this)) ?_;intro o ho hr;exact⟨p,β,_,r.set (tk:=s.toks+_) (HP.cS e) hb fS ho hr,aN.go g _ _ z,g,h⟩
  ·rw[e2]at hn;exact sn hn
theorem acB{y:Str}(h:Q (.bool (A4 y)) H):nV X n .isspace (.str y) [] H Q:=by
 intro A β s v vs ra r x hv;refine aa ((show vs=[]from hv) ..) ?_;refine aM x ?_;clear x;rintro t rfl;exact PySem.SC.isspace (bn.same r wB h)
end
end
section
section
variable{X:Fx}{n:Nat}{p:PV}
theorem Aa{o:Obj}:h.objs.size<=(h.push o).objs.size:=by rewrite[dI];exact qF _
noncomputable def p7(o:Option Nat):Option (Int×iw):=o.map λa=>((a:Int),0)
noncomputable def lj(x:Str)(lo hi:Option Nat):Str:=if(xE x (p7 lo) (p7 hi) ai).length==x.length then x else⟨((xE x (p7 lo) (p7 hi) ai).filterMap (x.cps[·]?)).toArray⟩
def qe(p:PV)(lo hi:Option Nat)(aY:Option dn)(H:HP)(Q:PV->HP->Prop):Prop:=match p with
 |.str x=>(lj x lo hi).length<=aI/\Q (.str (lj x lo hi)) H
 |.tup xs=>match lo,hi with
  |some a,ai=>(1<=a/\a<=xs.length/\xs.length<=aI)/\Q (.tup (xs.drop a)) H
  |_,_=>False
 |.lst xs=>match lo,hi with
  |none,ae b=>xs.length<=aI/\eb aY (xs.take b) H Q
  |_,_=>False
 |_=>False
def partsOf(lo hi:Option Nat)(e1 e2:Option Expr):Prop:=(match lo,e1 with|none,ai=>True|some a,ae (.Constant (.int i) _ _)=>i=(a:Int)|_,_=>False)/\(match hi,e2 with|none,ai=>True|some a,ae (.Constant (.int i) _ _)=>i=(a:Int)|_,_=>False)
noncomputable def rU(o:Option Nat)(t:iw):Value:=match o with
 |none=> .none
 |some a=> .int (a:Int) t
set_option tactic.hygienic true in
theorem Ms{A:bG}{o:Option Nat}{e:Option Expr}(h:match o,e with|none,ai=>True|some a,ae (.Constant (.int i) _ _)=>i=(a:Int)|_,_=>False)(k:∀t tk,P (rU o t) {s with toks:=tk}):Wp X A (evalPart e env) P s:=by
 cases o with
 |none=>
  cases e with
  |none=>exact aP (k 0 s.toks)
  |some e=>exact h.elim
 |some a=>
  cases e with
  |none=>exact h.elim
  |some e=>
   cases e<;>(try exact h.elim)
   rename_i c kk pp
   cases c<;>(try exact h.elim)
   rename_i i
   have hi:i=(a:Int):=h;subst hi;exact wpAny_mkInt (k _ _)
theorem ae3(items:Array Value)(b:Nat):Bn items ai (ae (b:Int)) ai=(items.toList.take b).toArray:=by
 rcases nO b items.size with h|h
 ·exact slicePick_upto items b h
 ·have e:Bn items ai (ae (b:Int)) ai=Bn items ai (ae (items.size:Int)) ai:=by
   unfold Bn sliceBounds;simp only[Option.getD_none];have h1:¬((b:Int)<0):=by exact Ip
   have h2:¬((items.size:Int)<0):=by exact Ip
   simp only[h1,h2,↓dy,if_false,show(1:Int)>0 by decide,↓fw,if_true];have h3:min (b:Int) (items.size:Int)=min (items.size:Int) (items.size:Int):=Vo h
   first|(refine aa (h3 ..) ?_;rfl)|(congr 1;omega)
  refine aa (e ..) ?_;refine aa (slicePick_upto items items.size (bj _) ..) ?_;refine aa (FY (by simp) ..) ?_;refine aa (FY (by exact h) ..) ?_;rfl
set_option tactic.hygienic true in
theorem Yv{o:Expr}{e1 e2:Option Expr}{p1:f0}(O:cj X)(hp:partsOf lo hi e1 e2)(h:bg X n env vm o ρ H λp H1=>qe p lo hi aY H1 Q):bg X n env vm (.Subscript o (.Slice e1 e2 ai p1) pos) ρ H Q:=by
 intro A β s ra r rf;refine Subscript_ (h.run ra r rf λp v cN H1 s1 r1 cY vr g q=>?_);refine wpAny_Slice (Ms hp.1 λt1 Nq=>Ms hp.2 λt2 nF=>?_);rewrite[evalPart_none];refine aP ?_;dsimp only;have gS:Go bO cN cN s1.heap (s1.heap.push {cls:=.type "slice",data:=.fields #[rU lo t1,rU hi t2,.none]}):=sa;have rS:aW X cN H1 {s1 with heap:=s1.heap.push {cls:=.type "slice",data:=.fields #[rU lo t1,rU hi t2,.none]},toks:=nF}:=r1.grow (λb x e=>cv _ e) (by rewrite[dI];exact gQ);refine aM (KF (.Slice e1 e2 ai p1) v (.ref s1.heap.objs.size)) ?_;intro ops gn;have fC:aN cN ({s1 with heap:=s1.heap.push {cls:=.type "slice",data:=.fields #[rU lo t1,rU hi t2,.none]},toks:=nF}:aV).heap p v:=aN.go gS _ _ vr;unfold qe at q
 have kh:=gP;split at q
 ·rename_i x
  refine aK q ?_;clear q;intro hz q;refine aM vr ?_;clear vr;rintro t rfl;refine qH (GO _ x t) slot_str_getitem.lookup (wpAny_getItem_str_slice (l:=lo.map λa=>((a:Int),t1)) (u:=hi.map λa=>((a:Int),t2)) (st:=ai) ⟨_,dw _ rfl,rfl,?_⟩ rfl ?_) gn
  ·cases lo<;>cases hi<;>rfl
  ·have e:xE x (lo.map λa=>((a:Int),t1)) (hi.map λa=>((a:Int),t2)) ai=xE x (p7 lo) (p7 hi) ai:=by cases lo<;>cases hi<;>rfl
   unfold sliceMade;refine aa (e ..) ?_;unfold lj at q;by_cases hc:((xE x (p7 lo) (p7 hi) ai).length==x.length)=ag
   ·rw[if_pos hc]at q
    refine aa (if_pos (by exact hc) ..) ?_;exact(bn.same rS rV q).trans (g.trans gS)
   ·rw[if_neg hc]at q
    refine aa (if_neg (by exact hc) ..) ?_;refine⟨?_,(bn.tok rS rV q).trans (g.trans gS)⟩;unfold lj at hz;rw[if_neg hc]at hz;exact dC hz kh
 ·rename_i xs
  split at q
  ·rename_i a
   refine aK q ?_;clear q;intro aj q;refine eB aj ?_;clear aj;intro h1 h2 h3;refine fL (Al fC) ?_;rintro t vs m rfl aB;refine aK aB ?_;clear aB;intro ho rv;refine qH (tD ho).typeIs OW.lookup (getItem_tuple_from (tD ho) (⟨_,dw _ rfl,rfl,rfl⟩) h1 (by simp only[fu,rv.length];exact B3 h2) ?_ (by simp only[fu,rv.length];exact B4 kh h3)) gn;refine bn.trans (g.trans gS) ?_;exact bn.EH (h':=Heap.push _ _) (tk:=nF) rS (bf.drop a rv) (bj _) (λb x q=>cv _ q) Aa (dw _ rfl) q
  ·exact q.elim
 ·rename_i xs
  split at q
  ·rename_i b
   refine aK q ?_;clear q;intro h3 q;rcases(iH (ps:=xs) rS fC rfl)with⟨t,vs,m,rfl,ho,rv⟩
   refine qH (im ho).typeIs Pu.lookup (wpAny_getItem_list_slice (lo:=ai) (hi:=ae (b:Int)) (st:=ai) (im ho) (agI ..) .none (.int _ _) .none (by simp) ?_ (by simp only[fu,rv.length];exact B4 kh h3)) gn;rewrite[ae3];refine bn.trans (g.trans gS) ?_;exact bn.pW (h':=Heap.push _ _) (tk:=nF) rS (bf.take b rv) (bj _) (λb x q=>cv _ q) Aa (dw _ rfl) q
  ·exact q.elim
 ·exact q.elim
set_option tactic.hygienic true in
theorem Yn{p1 p2:f0}(O:cj X)(hx:x.length<=aI)(h:bg X n env vm e ρ H λp H'=>match p with|.int i=>(i.natAbs<1000000000/\(x++(toString i:String)).length<=aI)/\Q (.str (x++(toString i:String))) H'|_=>False):
 bg X n env vm (.JoinedStr [.Constant (.str x) k p1,.FormattedValue e (-1) ai p2] pos) ρ H Q:=by
 intro A β s ra r rf
 have kh:=gP;have e0:Gz++x=x:=by
  cases x with|mk c=>exact congrArg Str.mk (by simp[Gz])
 have cY:di X env vm β ρ {s with toks:=s.toks+1}:=rf.ig (s':={s with toks:=s.toks+1}) (Go.refl bO _ _);have key:Wp X A (joinParts (Gz++x) (bU (.FormattedValue e (-1) ai p2) env::evalEach [] env)) (bn X β s.heap Q) {s with toks:=s.toks+1}:=by
  refine joinParts_cons (PyProof.Rows.FormattedValue_plain (h.run (s:={s with toks:=s.toks+1}) ra (r.tok _) cY λp v cN H1 s1 r1 cY vr g q=>?_));split at q
  ·rename_i i
   refine aK q ?_;clear q;intro aj q;refine aK aj ?_;clear aj;intro h1 h2;refine aM vr ?_;clear vr;rintro t rfl;refine wpAny_formatField_int ?_ ?_
   ·rcases F0 i.natAbs with h0|h0
    ·refine aa (h0 ..) ?_;decide
    ·have:=(F3 (n:=i.natAbs) (k:=30) (Ij h0)).mpr (Ik h1)
     exact Il this
   ·dsimp only
    refine aa (e0 ..) ?_;refine⟨dC h2 kh,joinParts_nil ?_ (dC h2 kh)⟩;exact(bn.tok (tk:=_) r1 rV q).trans g
  ·exact q.elim
 refine JoinedStr_many (joinParts_cons (uF ?_));refine⟨?_,key⟩;refine aa (e0 ..) ?_;exact dC hx kh
theorem XG:iT X β h (.bL []) lI:=⟨#[],0,[],rfl,rfl,by simp,rfl,by exact bR rfl⟩
theorem Yl{f:dn}(po:aF)(aaA:po=.aH []\/po=.bL [])(h:Q (.ak (H.next f)) (H.push po f)):bg X n env vm (.Dict [] [] pos) ρ H Q:=by
 intro A β s ra r rf;rewrite[eval_Dict_empty];refine ax (fF (pk ?_));refine aK (r.push (h':=s.heap.push lI) (tk:=s.toks) (po:=po) f (bj _) (λb x e=>cv _ e) Aa (dw _ rfl) (by rcases aaA with rfl|rfl;exact CC;exact XG)) ?_;intro r' g;exact⟨_,_,_,r',qa (H.jl f) (by unfold bz.put;(refine aa (if_pos rfl ..) ?_;rfl)),g,h⟩
theorem Ym{x2:Str}{k1 k2:Nat}{q1 q2:f0}{v1 v2:Expr}{f:dn}(O:cj X)(hx:x1≠x2)
 (h:bg X n env vm v1 ρ H λp1 H1=>bg X n env vm v2 ρ H1 λp2 H2=>Q (.ak (H2.next f)) (H2.push (.aH [(.x x1,p1),(.x x2,p2)]) f)):
 bg X n env vm (.Dict [ae (.Constant (.str x1) k1 q1),ae (.Constant (.str x2) k2 q2)] [v1,v2] pos) ρ H Q:=by
 intro A β s ra r rf;refine wpAny_Dict_pairs (knd:=fv X.prog X.w) (pairs:=[(bU (.Constant (.str x1) k1 q1) env,do let x<-bU v1 env;gx pos;pure x),(bU (.Constant (.str x2) k2 q2) env,do let x<-bU v2 env;gx pos;pure x)]) rfl (by simp) (by exact bR rfl) ?_;refine NH (r.Mx (tk:=s.toks) (h':=s.heap.push lI) (bj _) (λb x e=>cv _ e) Aa (dw _ rfl) (λaz U=>CC)) ?_;intro k g7 r0 Vq g0 Z9 ag8;have aen:di X env vm g7 ρ {s with heap:=s.heap.push lI}:=rf.ig (s':={s with heap:=s.heap.push lI}) g0;refine evalPairs_cons (uF ?_);refine ax (h.run (s:={s with heap:=s.heap.push lI,toks:=s.toks+1}) ra (r0.tok _) (aen.ig (s':={s with heap:=s.heap.push lI,toks:=s.toks+1}) (Go.refl bO _ _)) λp1 w1 cN H1 s1 r1 cY Fu g1 h1=>?_);refine ax (fF (aP ?_));refine evalPairs_cons (uF ?_);refine ax (h1.run (s:={s1 with toks:=s1.toks+1}) ra (r1.tok _) (cY.ig (s':={s1 with toks:=s1.toks+1}) (Go.refl bO _ _)) λp2 w2 eK H2 s2 r2 ir fC g2 h2=>?_);refine ax (fF (aP (evalPairs_nil ?_)));have JC:Go bO g7 eK (s.heap.push lI) s2.heap:=g1.trans g2;have rc:AccAt X s.heap.objs.size k eK s2.heap (.aH []):=AccAt.go (s:={s with heap:=s.heap.push lI}) r0 JC (λz=>z) Vq;refine ay rc.obj ?_;intro o ho aj;rcases aj with⟨ys,hd,he,_⟩
 have no:ys=[]:=he;subst no
 have agf:=aN.go g2 _ _ Fu;refine⟨[(.x x1,w1),(.x x2,w2)],⟨beq_self_eq_true x1,rfl,beq_self_eq_true x2,rfl,trivial⟩,qL.mpr ⟨o,ho,hd⟩,λh' fI fS=>?_⟩;refine ay (qL.mp fI) ?_;intro o' dZ ni;have hm:merged [] [(Atom.x x1,w1),(Atom.x x2,w2)]=[(Atom.x x1,w1),(Atom.x x2,w2)]:=by
  simp[merged,stored,hx]
 rw[hm]at ni;refine eB (rc.turn (tk:=s2.toks+[(w1,w2)].length) (ky:=.aH [(.x x1,p1),(.x x2,p2)]) r2 r.lo fS dZ (λg=>⟨_,ni,⟨w1,_,rfl,aN.go g _ _ agf,w2,_,rfl,aN.go g _ _ fC,rfl⟩,bR rfl⟩)) ?_;intro r3 B6 g3;refine agu (LF (aY:=ae f) (Q:=Q) r3 B6 (Go.drop (T:=bO) ((g0.trans JC).inl.trans (g3.inr)) (bj _)) (bj _) Z9 h2) ?_;intro p g9 H4 r4 v4 g4 q4 aj;exact⟨p,g9,H4,r4.tok _,v4,g4,q4⟩
end
end
section
section
variable{X:Fx}{n:Nat}{p:PV}
theorem Jk{A:bG}{y:Str}{Q:Fl->aJ->HP->Prop}(E:et X env)(V:jG env vm)(N:nW env vm iy y)(ra:cE n A)(r:aW X β H s)(rf:di X env vm β ρ s):∀D C s' az H' p m fl,aW X az H' s'->aN az s'.heap p (.ref D)->Go bO β az s.heap s'.heap->s'.heap.Ns C m->(∀l,az l≠ae C)->s.heap.objs.size<=C->Q .next (aR ρ iy p) H'->
 Bc (bN X.prog X.w) A FF (ae (jB (.Name y py) env)) (λU s'=>iV X env vm β s.heap Q .next s') (.ref D) C (.ok fl) s':=by
 intro D C s' az H' p m fl r' vr g hn hC hle q;refine(?_:bm _ A (jB (.Name y py) env (.ref D)) _ _ _);have qi:∀a,fn env a-> @sg Nat instLTNat a s.heap.objs.size:=by
  intro a t;rcases t with rfl|⟨nm,e⟩
  ·(refine ay rf.ns ?_;intro m aj aB;refine fL aj ?_;clear aj;intro aS dv cO ho l5);exact cq ho
  ·(refine aK (rf.cells nm a e) ?_;intro aj aB;refine cZ aj ?_;clear aj;intro aS dv ho cO);exact cq ho
 have vt:¬fn env C:=λt=>by have:=qi C t;exact jV _ (iP this hle)
 refine bP (uU (QA:=λaU H'=>Q .next aU H') E V N q A az s' (.ref D) ra r' (rf.ig g) vr) (λU s2 zq=>?_) λU U x=>x;rcases zq with⟨eK,H2,t9,r2,ir,g2,q2⟩
 have cW:=g2.ns hn vt hC;have CZ:∀l,eK l≠ae C:=by(refine fL hn ?_;clear hn;intro o aj aB ho aS);exact g2.off ho hC
 refine⟨m,cW,λh' gm=>?_⟩;refine aK (Cq r2 cW CZ (dC r.lo hle) gm) ?_;intro r3 g3;exact⟨eK,H2,t9,r3,ir.go (s':={s2 with heap:=h'}) g3 (λa t z=>vt (z▸t)),Go.drop (((g.toT.trans g2).inl (I:=C)).trans g3.inr) hle,q2⟩
theorem aft{y:Str}{i1:Nat}{Q:Fl->aJ->HP->Prop}(O:cj X)(E:et X env)(V:jG env vm)(K:jZ env scope vm dL [(i0,x0),(i1,x1)])(hs:fy iter=ag)(aaJ:fy fJ=ag)(d0:ρ.getD i0 ai=ai/\ρ.getD i1 ai=ai)
 (om:ph (.ListComp elt [⟨.Name x0 px,iter,ifs,0⟩,⟨.Name x1 nA,fJ,lO,0⟩] scope pos) (ae (.Name y py)) r7.line env=pure ag)(N:nW env vm iy y)
 (h:bg X n env vm iter ρ H λp H1=>ok (itemsOf H1 p) λxs=>∀C D,lE X (eO scope env C) dL D->
   cw i0 (λρ H QB=>eX X n (eO scope env C) dL ifs ρ H QB) (λρ acc H Q=>bg X n (eO scope env C) dL fJ ρ H λp H1=>ok (itemsOf H1 p) λxs=>
    cw i1 (λρ H QB=>eX X n (eO scope env C) dL lO ρ H QB) (fh λρ H Q=>bg X n (eO scope env C) dL elt ρ H Q) (λH'=>cD H1 H' p) xs ρ acc H1 Q)
    (λH'=>cD H1 H' p) xs ρ (.list []) H1 λU acc H'=>ku aY acc H' λp H2=>Q .next (aR ρ iy p) H2):
 iX X n env vm (.Assign [.Name y py] (.ListComp elt [⟨.Name x0 px,iter,ifs,0⟩,⟨.Name x1 nA,fJ,lO,0⟩] scope pos) r7) ρ H Q:=by
 intro A β s ra r rf;refine aa (GF _ _ _ _ om ..) ?_;refine ax (fF (ax ?_));refine(?_:Wp X A (do let _<-Bd (.ListComp elt [⟨.Name x0 px,iter,ifs,0⟩,⟨.Name x1 nA,fJ,lO,0⟩] scope pos) scope env _ (Bk []) aq (bU iter env) (ae (jB (.Name y py) env))) _ s);refine ax (bP (Q:=λU s'=>iV X env vm β s.heap Q .next s') (yD (use:=ae (jB (.Name y py) env)) (Q:=λp H2=>Q .next (aR ρ iy p) H2) (aY:=aY) (o0:=wf) (rest:=λD dH=>(do
  let x<-bU fJ dH
  gx fJ.pos
  let x<-Bg fJ dH x
  let _<-runOwn (.compStart (.ListComp elt [⟨.Name x0 px,iter,ifs,0⟩,⟨.Name x1 nA,fJ,lO,0⟩] scope pos) 1 (<-fb [x] (pf x)) (.ref D) dH) dH)) (gens:=[⟨.Name x1 nA,fJ,lO,0⟩]) (v7:=iter.pos) O E V K (ca) hs rfl Ff Cb rfl (λU U=>DV)
  (λI D dH=>⟨lV.1,lV.2.1,lV.2.2,ae1⟩) (λi x hm=>by
    rcases cH.mp hm with e|hm
    ·cases e;exact d0.1
    ·cases eR.mp hm;exact d0.2) ra r rf (h.mono λp H1 q=>?_) (Jk E V N ra r rf)) (λU U x=>aP (aP x)) λU U x=>x)
 rcases(cX q)with⟨xs,e,q⟩
 refine aa (e ..) ?_;intro C D k KA;refine pG (λU U U x=>x) ?_ ?_ ?_ (λU U U x=>x) (q C D KA)
 ·intro _ _ _ _ x i;exact eX.mono x i
 ·intro _ _ _ _ x;exact XX O KA (K.tW i1 x1 (by simp)).2 (Pr (K.tW i1 x1 (by simp)).1) aaJ x
 ·intro _ _ _ _ _ x i;exact jE.mono x i
theorem Yz(kx vx:Expr)(gens:List qJ)(scope:Scope)(pos:f0)(u:Value->eL Unit):evalThenUse (.DictComp kx vx gens scope pos) env u=(do let _<-Bd (.DictComp kx vx gens scope pos) scope env (firstIterPos gens pos) newDict (firstAsync gens) (firstIter gens env) (ae u)):=rfl
theorem afn{y:Str}{Q:Fl->aJ->HP->Prop}{f:dn}(O:cj X)(E:et X env)(V:jG env vm)(K:jZ env scope vm dL [(i0,x0)])(hs:fy iter=ag)(d0:ρ.getD i0 ai=ai)
 (om:ph (.DictComp kx vx [⟨.Name x0 px,iter,ifs,0⟩] scope pos) (ae (.Name y py)) r7.line env=pure ag)(N:nW env vm iy y)
 (h:bg X n env vm iter ρ H λp H1=>ok (itemsOf H1 p) λxs=>∀C D,lE X (eO scope env C) dL D->
   cw i0 (λρ H QB=>eX X n (eO scope env C) dL ifs ρ H QB) (jN (λρ H Q=>bg X n (eO scope env C) dL kx ρ H Q) (λρ H Q=>bg X n (eO scope env C) dL vx ρ H Q)) (λH'=>cD H1 H' p) xs ρ (.aH []) H1 λU acc H'=>ku (ae f) acc H' λp H2=>Q .next (aR ρ iy p) H2):
 iX X n env vm (.Assign [.Name y py] (.DictComp kx vx [⟨.Name x0 px,iter,ifs,0⟩] scope pos) r7) ρ H Q:=by
 intro A β s ra r rf;refine aa (GF _ _ _ _ om ..) ?_;refine ax (fF (ax ?_));rewrite[Yz];refine ax (bP (Q:=λU s'=>iV X env vm β s.heap Q .next s') (yD (use:=ae (jB (.Name y py) env)) (Q:=λp H2=>Q .next (aR ρ iy p) H2) (aY:=ae f) (o0:=lI) (rest:=λD dH=>(do
  let kv<-bU kx dH
  let vv<-fb [kv] (bU vx dH)
  gx {kx.pos with endLine:=vx.pos.endLine,endCol:=vx.pos.endCol}
  fb [kv,vv] (dictSet D kv vv))) (gens:=[]) (v7:=iter.pos) O E V K (eR.mpr rfl) hs rfl afy Vr rfl (λU U=>CC)
  (λI D dH=>⟨E4.1,E4.2.1,E4.2.2,rfl⟩) (λi x hm=>by cases eR.mp hm;exact d0) ra r rf (h.mono λp H1 q=>?_) (Jk E V N ra r rf)) (λU U x=>aP (aP x)) λU U x=>x)
 rcases(cX q)with⟨xs,e,q⟩
 refine aa (e ..) ?_;intro C D k KA;refine pG (λU U U x=>x) ?_ ?_ ?_ (λU U U x=>x) (q C D KA)
 ·intro _ _ _ _ x i;exact eX.mono x i
 ·intro _ acc _ _ x
  unfold jN at x;split at x
  ·exact XW KA ⟨_,rfl,x.1,x.2⟩
  ·exact x.elim
 ·intro _ _ _ _ _ x i;exact jE.mono x i
end
end
section
set_option genSizeOf false
set_option genSizeOfSpec false
set_option genInjectivity false
set_option genCtorIdx false
mutual
inductive PE where
 |none|bool (b:Bool)|int (i:Int)|str (s:Str)
 |var (i:Nat)
 |attr (o:PE) (a:At)
 |bin (op:oV) (aY:Option dn) (l r:PE)
 |cmp (op:lA) (l r:PE)
 |rj (op iJ:lA) (l m r:PE)
 |not (e:PE)
 |gE (op:BoolOp) (es:d9)
 |ite (c a b:PE)
 |idx (o i:PE)
 |jp (o:PE) (lo hi:Option Nat) (aY:Option dn)
 |tup (es:d9)
 |lst (aY:Option dn) (es:d9)
 |call (f:Fn) (es:d9)
 |cx (o:PE) (f:Fn) (es:d9)
 |new (C:Cl) (f1 f2:dn) (es:d9)
 |bi (b:BI) (aY:Option dn) (es:d9)
 |lm (m:LM) (o:PE) (es:d9)
 |r8 (aY:Option dn) (e:PE)
 |vh (x:Str) (e:PE)
 |kf (T:Bool) (f:dn)
 |vb (x1 x2:Str) (f:dn) (v1 v2:PE)
 |comp (aY:Option dn) (i:Nat) (it:PE) (cs:d9) (elt:PE)
 |n3 (aY:Option dn) (i:Nat) (it:PE) (j:Nat) (dE:PE) (elt:PE)
 |n5 (f:dn) (i:Nat) (it k v:PE)
inductive d9 where
 |nil
 |cons (e:PE) (es:d9)
end
set_option genCtorIdx true
noncomputable def Af(H:HP):PV->Option (List PV)
 |.ak l=>match H.get l with
  |some (.aH xs)=>ae (xs.map λx=>x.1.pv)
  |some (.list xs)=>ae xs
  |_=>ai
 |p=>listOf H p
def fQ(X:Fx)(n:Nat)(b:BI)(aY:Option dn)(ps:List PV)(H:HP)(Q:PV->HP->Prop):Prop:=match b with
 |.len=>match ps with
  |[.str x]=>x.length<=aI/\Q (.int x.length) H
  |[p]=>ok (qd H p) λxs=>xs.length<=aI/\Q (.int xs.length) H
  |_=>False
 |.tupleOf=>match ps with
  |[p]=>ok (qd H p) λxs=>xs.length<=aI/\Q (.tup xs) H
  |_=>False
 |.listOf=>match ps with
  |[.eh k]=>k<=aI/\eb aY ((bw k).map λ(i:Nat)=>PV.int (i7 i)) H Q
  |[p]=>ok (qd H p) λxs=>eb aY xs H Q
  |_=>False
 |.range=>match ps with
  |[.int i]=>(0<=i/\i<1000000000)/\Q (.eh i.toNat) H
  |_=>False
 |.sorted=>match ps with
  |[p]=>ok (Af H p) λxs=>ok (intsOf xs) λns=>ns.length<64/\eb aY ((lW ns).map PV.int) H Q
  |_=>False
 |.sum=>match ps with
  |[p]=>ok (listOf H p) λxs=>ok (intsOf xs) λns=>Q (.int ns.sum) H
  |_=>False
 |.max=>match ps with
  |[p]=>ok (listOf H p) λxs=>ok (intsOf xs) λns=>ns≠[]/\∀m∈ns,Q (.int m) H
  |_=>False
 |.intOf=>match ps with
  |[.int i]=>Q (.int i) H
  |[.str x]=>x.length<=640/\ok (uC x) λi=>Q (.int i) H
  |_=>False
 |.strOf=>match ps with
  |[.int i]=>i.natAbs<1000000000/\Q (.str (toString i)) H
  |_=>False
 |.dictOf=>ia X n .dictOf ps H Q
def io(m:LM)(p:PV)(ps:List PV)(H:HP)(Q:PV->HP->Prop):Prop:=match m with
 |.append=>match p,ps with
  |.ak l,[q]=>match H.get l with
   |some (.list xs)=>xs.length<aI/\Q .none (H.set (.list (xs++[q])) l)
   |_=>False
  |_,_=>False
 |.extend=>match p,ps with
  |.ak l,[q]=>match H.get l with
   |some (.list xs)=>ok (listOf H q) λys=>xs.length+ys.length<=aI/\Q .none (H.set (.list (xs++ys)) l)
   |_=>False
  |_,_=>False
 |.pop=>match p,ps with
  |.ak l,[]=>match H.get l with
   |some (.list xs)=>ok xs.getLast? λq=>Q q (H.set (.list xs.dropLast) l)
   |_=>False
  |_,_=>False
 |.get=>match p,ps with
  |.ak l,[q]=>match H.get l with
   |some (.aH xs)=>ok (fO q) λk=>Q ((bc xs k).getD .none) H
   |_=>False
  |_,_=>False
 |.li=>match p,ps with
  |.ak l,[q,p]=>match H.get l with
   |some (.bL xs)=>ok (keyOf q) λk=>xs.length<aI/\match bc xs k with
    |some z=>Q z H
    |none=>Q p (H.set (.bL (dput xs k p)) l)
   |_=>False
  |_,_=>False
 |.jI=>match p,ps with
  |.ak l,[q]=>match H.get l with
   |some (.aH xs)=>ok (fO q) λk=>ok (bc xs k) λp=>Q p (H.set (.aH (fg xs k)) l)
   |_=>False
  |_,_=>False
 |.isspace=>match p,ps with
  |.str y,[]=>Q (.bool (A4 y)) H
  |_,_=>False
def qT(X:Fx)(n:Nat)(p:PV)(H:HP)(Q:PV->HP->Prop):Prop:=
 ∀A β s v,cE n A->aW X β H s->aN β s.heap p v->Wp X A (call (.type "set") [v]) (λv2 s2=>Wp X A (call (.builtin "sorted") [v2]) (bn X β s.heap Q) s2) s
def tq(t:Bool)(Q:PV->HP->Prop):PV->HP->Prop:=match t with
 |false=>Q
 |true=>λp H=>match p with
  |.bool b=>Q (.bool b) H
  |_=>False
noncomputable def Cl.init:Cl->Option Fn
 |.fG=>ai|.Keeper=>ae .jM|.jD=>ae .kP|.j8=>ae .lp|.Heap=>ae .kQ
def zW(X:Fx)(n:Nat)(C:Cl)(f1 f2:dn)(ps:List PV)(H:HP)(Q:PV->HP->Prop):Prop:=match C.init with
 |some f=>∃m,n=m+1/\bC X m f (.ak ((H.push (.attrs []) f2).next f1)::ps) (wq C f1 f2 H) λp H2=>p=.none/\Q (.ak ((H.push (.attrs []) f2).next f1)) H2
 |none=>ps=[]/\Q (.ak ((H.push (.attrs []) f2).next f1)) (wq .fG f1 f2 H)
section
variable(X:Fx)(n:Nat)
mutual
noncomputable def aX:PE->Bool->aJ->HP->(PV->HP->Prop)->Prop
 |.none,t,ρ,H,Q=>tq t Q .none H
 |.bool b,t,ρ,H,Q=>tq t Q (.bool b) H
 |.int i,t,ρ,H,Q=>tq t Q (.int i) H
 |.str s,t,ρ,H,Q=>tq t Q (.str s) H
 |.var i,t,ρ,H,Q=>ok (ρ.getD i ai) λp=>tq t Q p H
 |.attr o a,t,ρ,H,Q=>aX o aq ρ H λp H'=>fP p a H' (tq t Q)
 |.bin op aY l r,t,ρ,H,Q=>aX l aq ρ H λp H1=>aX r aq ρ H1 λq H2=>iY op aY p q H2 (tq t Q)
 |.cmp op l r,t,ρ,H,Q=>aX l aq ρ H λp H1=>aX r aq ρ H1 λq H2=>cK op p q H2 λb=>Q (.bool b) H2
 |.rj op iJ l m r,t,ρ,H,Q=>t=ag/\aX l aq ρ H λp H1=>aX m aq ρ H1 λq H2=>cK op p q H2 λb=>if b=ag then aX r aq ρ H2 λz H3=>cK iJ q z H3 λb2=>Q (.bool b2) H3 else Q (.bool aq) H2
 |.not e,t,ρ,H,Q=>t=ag/\aX e ag ρ H λp H'=>match p with
  |.bool b=>Q (.bool (!b)) H'
  |_=>False
 |.gE op es,t,ρ,H,Q=>lr op es t ρ H Q
 |.ite c a b,t,ρ,H,Q=>t=aq/\aX c ag ρ H λp H'=>match p with
  |.bool b'=>if b'=ag then aX a aq ρ H' Q else aX b aq ρ H' Q
  |_=>False
 |.idx o i,t,ρ,H,Q=>aX o aq ρ H λp H1=>aX i aq ρ H1 λq H2=>eV p q H2 (tq t Q)
 |.jp o lo hi aY,t,ρ,H,Q=>aX o aq ρ H λp H1=>qe p lo hi aY H1 (tq t Q)
 |.tup es,t,ρ,H,Q=>iu es ρ H λps H'=>ps.length<=aI/\tq t Q (.tup ps) H'
 |.lst aY es,t,ρ,H,Q=>iu es ρ H λps H'=>eb aY ps H' (tq t Q)
 |.call f es,t,ρ,H,Q=>iu es ρ H λps H'=>bC X n f ps H' (tq t Q)
 |.cx o f es,t,ρ,H,Q=>aX o aq ρ H λp H1=>nu p f H1/\iu es ρ H1 λps H'=>bC X n f (p::ps) H' (tq t Q)
 |.new C f1 f2 es,t,ρ,H,Q=>iu es ρ H λps H'=>zW X n C f1 f2 ps H' (tq t Q)
 |.bi b aY es,t,ρ,H,Q=>iu es ρ H λps H'=>fQ X n b aY ps H' (tq t Q)
 |.lm m o es,t,ρ,H,Q=>aX o aq ρ H λp H1=>oG m p H1/\iu es ρ H1 λps H'=>io m p ps H' (tq t Q)
 |.r8 aY e,t,ρ,H,Q=>aX e aq ρ H λp H'=>qT X n p H' (tq t Q)
 |.vh x e,t,ρ,H,Q=>x.length<=aI/\aX e aq ρ H λp H'=>match p with
  |.int i=>(i.natAbs<1000000000/\(x++(toString i:String)).length<=aI)/\tq t Q (.str (x++(toString i:String))) H'
  |_=>False
 |.kf T f,t,ρ,H,Q=>tq t Q (.ak (H.next f)) (H.push (if T=ag then .bL []else .aH []) f)
 |.vb x1 x2 f v1 v2,t,ρ,H,Q=>aX v1 aq ρ H λp1 H1=>aX v2 aq ρ H1 λp2 H2=>tq t Q (.ak (H2.next f)) (H2.push (.aH [(.x x1,p1),(.x x2,p2)]) f)
 |.comp aY i it cs elt,t,ρ,H,Q=>ρ.getD i ai=ai/\aX it aq ρ H λp H1=>ok (itemsOf H1 p) λxs=>
    cw i (As cs) (fh λρ H Q=>aX elt aq ρ H Q) (λH'=>cD H1 H' p) xs ρ (.list []) H1 λU acc H'=>ku aY acc H' (tq t Q)
 |.n3 aY i it j dE elt,t,ρ,H,Q=>(ρ.getD i ai=ai/\ρ.getD j ai=ai)/\aX it aq ρ H λp H1=>ok (itemsOf H1 p) λxs=>
    cw i (λU H QB=>QB ag H) (λρ acc H Q=>aX dE aq ρ H λp H1=>ok (itemsOf H1 p) λxs=>
     cw j (λU H QB=>QB ag H) (fh λρ H Q=>aX elt aq ρ H Q) (λH'=>cD H1 H' p) xs ρ acc H1 Q)
     (λH'=>cD H1 H' p) xs ρ (.list []) H1 λU acc H'=>ku aY acc H' (tq t Q)
 |.n5 f i it k v,t,ρ,H,Q=>ρ.getD i ai=ai/\aX it aq ρ H λp H1=>ok (itemsOf H1 p) λxs=>
    cw i (λU H QB=>QB ag H) (jN (λρ H Q=>aX k aq ρ H Q) (λρ H Q=>aX v aq ρ H Q)) (λH'=>cD H1 H' p) xs ρ (.aH []) H1 λU acc H'=>ku (ae f) acc H' (tq t Q)
noncomputable def iu:d9->aJ->HP->(List PV->HP->Prop)->Prop
 |.nil,ρ,H,Q=>Q [] H
 |.cons e es,ρ,H,Q=>aX e aq ρ H λp H1=>iu es ρ H1 λps H2=>Q (p::ps) H2
noncomputable def lr:BoolOp->d9->Bool->aJ->HP->(PV->HP->Prop)->Prop
 |op,.nil,t,ρ,H,Q=>t=ag/\Q (.bool (op==.And)) H
 |op,.cons e es,t,ρ,H,Q=>match t with
  |true=>aX e ag ρ H λp H1=>match p with
   |.bool b=>if b=(op==.And)then lr op es ag ρ H1 Q else Q (.bool b) H1
   |_=>False
  |false=>match es with
   |.nil=>aX e aq ρ H Q
   |.cons _ _=>aX e aq ρ H λp H1=>match p with
    |.bool b=>if b=(op==.And)then lr op es aq ρ H1 Q else Q (.bool b) H1
    |_=>False
noncomputable def As:d9->aJ->HP->(Bool->HP->Prop)->Prop
 |.nil,ρ,H,QB=>QB ag H
 |.cons c es,ρ,H,QB=>match es with
  |.nil=>aX c ag ρ H λp H'=>match p with
   |.bool b=>QB b H'
   |_=>False
  |.cons _ _=>False
end
end
noncomputable def i6(cs sc:Scope):Scope:=
 {cs with names:=cs.names.map λ(n,k)=>if(k==oT&&sc.kind==.function&&sc.names.lookup n==ae .cell)then(n,Pc)else(n,k)}
noncomputable def fR(cs:Scope)(vm:Vm)(L:List (Nat×Str)):Vm:=L++vm.filter λx=>cs.names.lookup x.2==ae .free
noncomputable def m6(sc cs:Scope)(vm:Vm)(L:List (Nat×Str)):Bool:=
 cs.kind==.function&&cs.names.all (λy=>y.2 !=.cell&&(y.2 !=.local||cs.names.lookup y.1==ae .local)&&(y.2 !=.free||sc.names.lookup y.1==ae .cell))&&
  L.all (λz=>cs.names.lookup z.2==ae .local&&(vm.lookup z.1).isNone)&&decide (L.map (·.1)).Nodup&&decide (L.map (·.2)).Nodup
noncomputable def glob(sc:Scope)(x:Str):Bool:=sc.names.lookup x==ae .globalImplicit
noncomputable def ET(f:Fn):Bool:=f !=.jM&&f !=.kP&&f !=.lp&&f !=.kQ
structure Vw where
 k:Nat
 x:Str
 es:List Expr
 c:Const
 op:oV
 Cx:List lA
 gE:BoolOp
 p:Nat
 i:Int
 gs:List qJ
 sc:Scope
 os:List (Option Expr)
noncomputable def vz:Vw:=⟨0,"",[],.none,.Add,[],.And,0,0,[],default,[]⟩
noncomputable def vw(e:Expr):Vw:=match e with
 |.Constant c _ _=>{vz with k:=1,c:=c}
 |.Name x p=>{vz with k:=2,x:=x,p:=p.line}
 |.Attribute o s p=>{vz with k:=3,x:=s,es:=[o],p:=p.endLine}
 |.BinOp l op r _=>{vz with k:=4,es:=[l,r],op:=op}
 |.Compare l ops rs _=>{vz with k:=5,es:=l::rs,Cx:=ops}
 |.UnaryOp .Not x _=>{vz with k:=6,es:=[x]}
 |.BoolOp op es _=>{vz with k:=7,es:=es,gE:=op}
 |.IfExp c a b _=>{vz with k:=8,es:=[c,a,b]}
 |.Subscript o i _=>{vz with k:=9,es:=[o,i]}
 |.Slice e1 e2 ai _=>{vz with k:=10,os:=[e1,e2]}
 |.Tuple es _ _=>{vz with k:=11,es:=es}
 |.List es _=>{vz with k:=12,es:=es}
 |.Call f es [] p=>{vz with k:=13,es:=f::es,p:=p.line}
 |.JoinedStr es _=>{vz with k:=14,es:=es}
 |.FormattedValue e c ai _=>{vz with k:=15,es:=[e],i:=c}
 |.Dict ks es _=>{vz with k:=16,es:=es,os:=ks}
 |.ListComp e gs s _=>{vz with k:=17,es:=[e],gs:=gs,sc:=s}
 |.DictComp k v gs s _=>{vz with k:=18,es:=[k,v],gs:=gs,sc:=s}
 |_=>vz
noncomputable def Ny(e:Expr):List Prop:=[True,∃c k p,e=.Constant c k p,∃x p,e=.Name x p,∃o s p,e=.Attribute o s p,∃l op r p,e=.BinOp l op r p,∃l ops rs p,e=.Compare l ops rs p,
 ∃x p,e=.UnaryOp .Not x p,∃op es p,e=.BoolOp op es p,∃c a b p,e=.IfExp c a b p,∃o i p,e=.Subscript o i p,∃e1 e2 p,e=.Slice e1 e2 ai p,∃es k p,e=.Tuple es k p,∃es p,e=.List es p,
 ∃f es p,e=.Call f es [] p,∃es p,e=.JoinedStr es p,∃x c p,e=.FormattedValue x c ai p,∃ks es p,e=.Dict ks es p,∃x gs s p,e=.ListComp x gs s p,∃k v gs s p,e=.DictComp k v gs s p]
theorem agj(e:Expr):(Ny e).getD (vw e).k True:=by
 cases e with
 |UnaryOp op x p=>cases op<;>first|exact pn|exact .intro _ (.intro _ rfl)
 |Slice a b c p=>cases c<;>first|exact pn|exact .intro _ (.intro _ (.intro _ rfl))
 |Call f es ks p=>cases ks<;>first|exact pn|exact .intro _ (.intro _ (.intro _ rfl))
 |FormattedValue x c s p=>cases s<;>first|exact pn|exact .intro _ (.intro _ (.intro _ rfl))
 |_=>first|exact pn|exact .intro _ (.intro _ rfl)|exact .intro _ (.intro _ (.intro _ rfl))|exact .intro _ (.intro _ (.intro _ (.intro _ rfl)))|exact .intro _ (.intro _ (.intro _ (.intro _ (.intro _ rfl))))
theorem ba{a b:Bool}{P:Prop}(h:(a&&b)=ag)(k:a=ag->b=ag->P):P:=by
 cases a
 ·exact absurd h dG
 ·exact k rfl h
theorem cQ{b:Bool}(h:((vw e).k==k&&b)=ag):(Ny e).getD k True:=ba h λh0 U=>(eq_of_beq h0)▸agj e
theorem bD{a b:Bool}(h:(a&&b)=ag):b=ag:=ba h λU h=>h
noncomputable def mh{α:Type}(f:α->Bool)(g:List α->Bool):List α->Bool
 |[]=>aq
 |a::as=>f a&&g as
inductive PX{α:Type}(f:α->Bool)(g:List α->Bool)(l:List α):Prop
 |mk (a:α) (as:List α) (e:l=a::as) (h1:f a=ag) (h2:g as=ag)
theorem i5{α:Type}{f:α->Bool}{g:List α->Bool}{l:List α}(h:mh f g l=ag):PX f g l:=by
 cases l with
 |nil=>exact absurd h dG
 |cons a as=>exact ba h λh1 h2=>⟨a,as,rfl,h1,h2⟩
theorem iI{α:Type}{l:List α}(h:l.isEmpty=ag):l=[]:=ul.mp h
noncomputable def E0(o:Option Nat)(e:Option Expr):Bool:=match o with
 |none=>e.isNone
 |some a=>e.any λe=>(vw e).k==1&&(vw e).c==.int (a:Int)
noncomputable def pL(f:Str->Expr->List Expr->Bool)(g:qJ):Bool:=g.is_async==0&&((vw g.target).k==2&&f (vw g.target).x g.iter g.ifs)
inductive GenAt(f:Str->Expr->List Expr->Bool)(g:qJ):Prop
 |mk (x:Str) (p:f0) (it:Expr) (ifs:List Expr) (e:g=⟨.Name x p,it,ifs,0⟩) (h:f x it ifs=ag)
theorem yP{f:Str->Expr->List Expr->Bool}{g:qJ}(h:pL f g=ag):GenAt f g:=by
 rcases g with⟨t,it,ifs,a⟩
 refine ba h λh0 h1=>?_;obtain rfl:a=0:=eq_of_beq h0;refine eC (cQ h1:∃x p,t=.Name x p) ?_;rintro x p rfl;exact⟨x,p,it,ifs,rfl,h1⟩
mutual
noncomputable def bK(sc:Scope)(vm:Vm):PE->Expr->Bool
 |.none,e=>(vw e).k==1&&(vw e).c==.none
 |.bool b,e=>(vw e).k==1&&(vw e).c==.bool b
 |.int i,e=>(vw e).k==1&&(vw e).c==.int i
 |.str s,e=>(vw e).k==1&&(vw e).c==.str s
 |.var i,e=>(vw e).k==2&&(vm.lookup i==ae (vw e).x&&((vw e).x !=("__debug__":Str)&&(vw e).x !=("__classdict__":Str)))
 |.attr o a,e=>(vw e).k==3&&((vw e).x==a.str&&mh (λo'=>rT o'&&bK sc vm o o') ct (vw e).es)
 |.bin op _ l r,e=>(vw e).k==4&&(op==(vw e).op&&mh (bK sc vm l) (mh (bK sc vm r) ct) (vw e).es)
 |.cmp op l r,e=>(vw e).k==5&&((vw e).Cx==[op]&&mh (bK sc vm l) (mh (λr'=>tN r'&&bK sc vm r r') ct) (vw e).es)
 |.rj op iJ l m r,e=>(vw e).k==5&&((vw e).Cx==[op,iJ]&&mh (bK sc vm l) (mh (bK sc vm m) (mh (λr'=>tN r'&&bK sc vm r r') ct)) (vw e).es)
 |.not x,e=>(vw e).k==6&&mh (bK sc vm x) ct (vw e).es
 |.gE op es,e=>(vw e).k==7&&(op==(vw e).gE&&kt sc vm es (vw e).es)
 |.ite c a b,e=>(vw e).k==8&&mh (bK sc vm c) (mh (bK sc vm a) (mh (bK sc vm b) ct)) (vw e).es
 |.idx o i,e=>(vw e).k==9&&mh (bK sc vm o) (mh (bK sc vm i) ct) (vw e).es
 |.jp o lo hi _,e=>(vw e).k==9&&mh (bK sc vm o) (mh (λs=>(vw s).k==10&&mh (E0 lo) (mh (E0 hi) ct) (vw s).os) ct) (vw e).es
 |.tup es,e=>(vw e).k==11&&((vw e).es.all noStar&&kt sc vm es (vw e).es)
 |.lst _ es,e=>(vw e).k==12&&((vw e).es.all noStar&&kt sc vm es (vw e).es)
 |.call f es,e=>(vw e).k==13&&mh (λg=>(vw g).k==2&&((vw g).x==f.str&&f.cls==ai&&glob sc (vw g).x)) (λas=>as.all noStar&&kt sc vm es as) (vw e).es
 |.cx o f es,e=>(vw e).k==13&&mh (λg=>(vw g).k==3&&((vw g).x==f.str&&((vw g).p==(vw e).p&&(ET f&&mh (λo'=>rT o'&&bK sc vm o o') ct (vw g).es)))) (λas=>as.all noStar&&(decide (as.length<30)&&kt sc vm es as)) (vw e).es
 |.new C _ _ es,e=>(vw e).k==13&&mh (λg=>(vw g).k==2&&((vw g).x==C.str&&glob sc (vw g).x)) (λas=>as.all noStar&&kt sc vm es as) (vw e).es
 |.bi b _ es,e=>(vw e).k==13&&mh (λg=>(vw g).k==2&&((vw g).x==b.str&&glob sc (vw g).x)) (λas=>as.all noStar&&kt sc vm es as) (vw e).es
 |.lm m o es,e=>(vw e).k==13&&mh (λg=>(vw g).k==3&&((vw g).x==m.str&&((vw g).p==(vw e).p&&mh (λo'=>rT o'&&bK sc vm o o') ct (vw g).es))) (λas=>as.all noStar&&(decide (as.length<30)&&kt sc vm es as)) (vw e).es
 |.r8 _ x,e=>(vw e).k==13&&mh (λf=>(vw f).k==2&&((vw f).x==BI.sorted.str&&glob sc (vw f).x))
    (mh (λe=>(vw e).k==13&&mh (λg=>(vw g).k==2&&((vw g).x==("set":Str)&&glob sc (vw g).x)) (mh (λx'=>noStar x'&&bK sc vm x x') ct) (vw e).es) ct) (vw e).es
 |.vh y x,e=>(vw e).k==14&&mh (λa=>(vw a).k==1&&(vw a).c==.str y) (mh (λa=>(vw a).k==15&&((vw a).i== -1&&mh (bK sc vm x) ct (vw a).es)) ct) (vw e).es
 |.kf _ _,e=>(vw e).k==16&&((vw e).os.isEmpty&&(vw e).es.isEmpty)
 |.vb x1 x2 _ v1 v2,e=>(vw e).k==16&&(x1 !=x2&&(mh (λo=>o.any λa=>(vw a).k==1&&(vw a).c==.str x1) (mh (λo=>o.any λa=>(vw a).k==1&&(vw a).c==.str x2) ct) (vw e).os&&mh (bK sc vm v1) (mh (bK sc vm v2) ct) (vw e).es))
 |.comp _ i it cs elt,e=>(vw e).k==17&&mh (pL λx bY ifs=>m6 sc (vw e).sc vm [(i,x)]&&(fy bY&&(bK sc vm it bY&&(kt (i6 (vw e).sc sc) (fR (vw e).sc vm [(i,x)]) cs ifs&&mh (bK (i6 (vw e).sc sc) (fR (vw e).sc vm [(i,x)]) elt) ct (vw e).es)))) ct (vw e).gs
 |.n3 ..,_=>aq
 |.n5 ..,_=>aq
noncomputable def kt(sc:Scope)(vm:Vm):d9->List Expr->Bool
 |.nil,es=>es.isEmpty
 |.cons p ps,es=>mh (bK sc vm p) (kt sc vm ps) es
end
end
variable{it dE:PE}
section
section
variable{X:Fx}{n:Nat}{p:PV}
theorem gl{f:List PV->Prop}(h:match o with|some (.list xs)=>f xs|_=>False):∃xs,o=ae (.list xs)/\f xs:=by
 cases o with
 |none=>exact h.elim
 |some o=>cases o with
  |list xs=>exact⟨xs,rfl,h⟩
  |_=>exact h.elim
theorem gA{f:List (Atom×PV)->Prop}(h:match o with|some (.aH xs)=>f xs|_=>False):∃xs,o=ae (.aH xs)/\f xs:=by
 cases o with
 |none=>exact h.elim
 |some o=>cases o with
  |aH xs=>exact⟨xs,rfl,h⟩
  |_=>exact h.elim
theorem gT{f:List (List Atom×PV)->Prop}(h:match o with|some (.bL xs)=>f xs|_=>False):∃xs,o=ae (.bL xs)/\f xs:=by
 cases o with
 |none=>exact h.elim
 |some o=>cases o with
  |bL xs=>exact⟨xs,rfl,h⟩
  |_=>exact h.elim
theorem zL{ps:List PV}{G:cr->PV->Prop}(h:match p,ps with|.ak l,[q]=>G l q|_,_=>False):∃l q,p=.ak l/\ps=[q]/\G l q:=by
 cases p with
 |ak l=>match ps,h with
  |[q],h=>exact⟨l,q,rfl,rfl,h⟩
 |_=>exact h.elim
theorem yv{ps:List PV}{G:PV->Prop}(h:match ps with|[p]=>G p|_=>False):∃p,ps=[p]/\G p:=by
 match ps,h with
 |[p],h=>exact⟨p,rfl,h⟩
theorem act{m:LM}{ps:List PV}(O:cj X)(h:io m p ps H Q):nV X n m p ps H Q:=by
 cases m
 case append=>
  refine cZ (zL h) ?_;rintro l q rfl aB;refine aK aB ?_;clear aB;rintro rfl h;refine ay (gl h) ?_;intro xs e h;exact acu e h.1 h.2
 case extend=>
  refine cZ (zL h) ?_;rintro l q rfl aB;refine aK aB ?_;clear aB;rintro rfl h;refine ay (gl h) ?_;intro xs e h;rcases(cX h)with⟨ys,e2,h⟩
  exact acx e e2 h.1 h.2
 case pop=>
  cases p with
  |ak l=>cases ps with
   |nil=>
    refine ay (gl h) ?_;intro xs e h;rcases(cX h)with⟨q,e2,h⟩
    refine aM (List.getLast?_eq_some_iff.mp e2) ?_;rintro ys rfl;rw[N7]at h;exact acD e h
   |cons=>exact h.elim
  |_=>exact h.elim
 case get=>
  refine cZ (zL h) ?_;rintro l q rfl aB;refine aK aB ?_;clear aB;rintro rfl h;refine ay (gA h) ?_;intro xs e h;rcases(cX h)with⟨k,e2,h⟩
  exact acy O.size e e2 h
 case li=>
  cases p with
  |ak l=>match ps,h with
   |[q,z],h=>
    refine ay (gT h) ?_;intro xs e h;rcases(cX h)with⟨k,e2,h⟩
    exact acE O.size e e2 h.1 h.2
  |_=>exact h.elim
 case jI=>
  refine cZ (zL h) ?_;rintro l q rfl aB;refine aK aB ?_;clear aB;rintro rfl h;refine ay (gA h) ?_;intro xs e h;rcases(cX h)with⟨k,e2,h⟩
  rcases(cX h)with⟨q,e3,h⟩
  exact acw e e2 e3 h
 case isspace=>
  cases p with
  |str y=>cases ps with
   |nil=>exact acB h
   |cons=>exact h.elim
  |_=>exact h.elim
theorem afj(h:Af H p=ae xs):(∃l ys,p=.ak l/\H.get l=ae (.aH ys)/\xs=ys.map λx=>x.1.pv)\/listOf H p=ae xs:=by
 cases p with
 |ak l=>
  have key:∀o:Option aF,(match o with|some (.aH xs)=>ae (xs.map λx=>x.1.pv)|some (.list xs)=>ae xs|_=>ai)=ae xs->(∃ys,o=ae (.aH ys)/\xs=ys.map λx=>x.1.pv)\/(match o with|some (.list xs)=>ae xs|_=>ai)=ae xs:=by
   intro o h;cases o with
   |none=>exact ns h
   |some o=>cases o with
    |aH ys=>exact .inl ⟨ys,rfl,(mQ h).symm⟩
    |list ys=>exact .inr h
    |_=>exact ns h
  exact(key _ h).imp (λzq=>by(refine ay zq ?_;clear zq;intro ys e e2);exact⟨l,ys,rfl,e,e2⟩) id
 |_=>exact .inr h
theorem We{b:BI}{ps:List PV}(O:cj X)(h:fQ X n b aY ps H Q):ia X n b ps H Q:=by
 have two:∀{p:PV},ok (qd H p) (λxs=>xs.length<=aI/\Q (.int xs.length) H)->ia X n .len [p] H Q:=λh=>by
  rcases(cX h)with⟨xs,e,h⟩;exact Wi e h.1 h.2
 have lst:∀{p:PV},ok (qd H p) (λxs=>eb aY xs H Q)->ia X n .listOf [p] H Q:=λh=>by
  rcases(cX h)with⟨xs,e,h⟩;exact Wk e h
 cases b
 case len=>
  cases ps with
  |nil=>exact h.elim
  |cons p ps=>cases ps with
   |nil=>cases p with
    |str=>exact Wj h.1 h.2
    |_=>exact two h
   |cons=>cases p<;>exact h.elim
 case tupleOf=>
  refine ay (yv h) ?_;rintro p rfl h;rcases(cX h)with⟨xs,e,h⟩;exact Wz e h.1 h.2
 case listOf=>
  cases ps with
  |nil=>exact h.elim
  |cons p ps=>cases ps with
   |nil=>cases p with
    |eh=>exact Wm h.1 h.2
    |_=>exact lst h
   |cons=>cases p<;>exact h.elim
 case range=>
  cases ps with
  |nil=>exact h.elim
  |cons p ps=>cases p with
   |int i=>cases ps with
    |nil=>exact Ws h.1.1 h.1.2 h.2
    |cons=>exact h.elim
   |_=>exact h.elim
 case sorted=>
  refine ay (yv h) ?_;rintro p rfl h;rcases(cX h)with⟨xs,e,h1⟩
  rcases(cX h1)with⟨ns,e2,h3⟩
  rcases afj e with⟨l,ys,rfl,e3,e4⟩|e3
  ·rw[e4]at e2
   exact Wu e3 e2 h3.1 O.size h3.2
  ·exact Wt e3 e2 h3.1 h3.2
 case sum=>
  refine ay (yv h) ?_;rintro p rfl h;rcases(cX h)with⟨xs,e,h⟩
  rcases(cX h)with⟨ns,e2,h⟩
  exact Ww e e2 h
 case max=>
  refine ay (yv h) ?_;rintro p rfl h;rcases(cX h)with⟨xs,e,h⟩
  rcases(cX h)with⟨ns,e2,h⟩
  exact Wq e e2 h.1 h.2
 case intOf=>
  cases ps with
  |nil=>exact h.elim
  |cons p ps=>cases p with
   |int i=>cases ps with
    |nil=>exact Wg h
    |cons=>exact h.elim
   |str x=>cases ps with
    |nil=>rcases(cX h.2)with⟨i,e,h2⟩;exact Wh h.1 e h2
    |cons=>exact h.elim
   |_=>exact h.elim
 case strOf=>
  cases ps with
  |nil=>exact h.elim
  |cons p ps=>cases p with
   |int i=>cases ps with
    |nil=>exact Wv h.1 h.2
    |cons=>exact h.elim
   |_=>exact h.elim
 case dictOf=>exact h
set_option tactic.hygienic true in
theorem Yu{C:Cl}{es:List Expr}(O:cj X)(E:et X env)(hs:es.all noStar=ag)(hk:env.kindOf C.str=ae .globalImplicit)
 (h:ib X n env vm es ρ H λps H'=>zW X n C f1 f2 ps H' Q):bg X n env vm (.Call (.Name C.str np) es [] pos) ρ H Q:=by
 intro A β s ra r rf;refine(?_:Wp X A (do sE pos (<-bU (.Name C.str np) env) [] (jC pos (iS es env)) (pb pos (pd [] env))) _ s);refine ax (wk O E r hk (WZ C) (.inl (O.JG C)) ?_);refine callWith_of (by refine aa (plain_any hs ..) ?_;rfl) (keeps_K (O.Lm C)) (td (plain_any hs) (h.run ra r rf λps vs az H' s' r' cF hv g hc=>⟨r'.K O,?_⟩));unfold zW at hc;split at hc
 ·rename_i f hf
  refine ay hc ?_;clear hc;rintro m rfl hc;have Df:f.cls=ae C/\f.str=("__init__":Str):=by
   cases C<;>simp only[Cl.init,ut,reduceCtorEq]at hf<;>subst hf<;>exact⟨rfl,rfl⟩
  exact bP (adc O Df ra r' hv hc) (λ_ _ x=>x.trans g) λ_ _ x=>x
 ·rename_i hf
  have hC:C=.fG:=by cases C<;>(first|simp[Cl.init]at hf|exact sn hf)<;>rfl
  subst hC;refine aK hc ?_;clear hc;rintro rfl hc;refine aa ((show vs=[]from hv) ..) ?_;exact bP (ade O r' hc) (λ_ _ x=>x.trans g) λ_ _ x=>x
theorem Yw{n1 n2 p1 p2:f0}(O:cj X)(E:et X env)(hs:noStar e=ag)(h1:env.kindOf BI.sorted.str=ae .globalImplicit)(h2:env.kindOf ("set":Str)=ae .globalImplicit)
 (h:bg X n env vm e ρ H λp H'=>qT X n p H' Q):bg X n env vm (.Call (.Name BI.sorted.str n1) [.Call (.Name ("set":Str) n2) [e] [] p2] [] p1) ρ H Q:=by
 intro A β s ra r rf;refine(?_:Wp X A (do sE p1 (<-bU (.Name BI.sorted.str n1) env) [] (jC p1 (iS [.Call (.Name ("set":Str) n2) [e] [] p2] env)) (pb p1 (pd [] env))) _ s);refine ax (wk O E r h1 (IG .sorted) (.inr (O.CR .sorted)) ?_);refine IQ (b:=.sorted) (plain_any (es:=[.Call (.Name ("set":Str) n2) [e] [] p2]) rfl) (td (plain_any (es:=[.Call (.Name ("set":Str) n2) [e] [] p2]) rfl) ?_);refine aa (wJ (e:=.Call (.Name ("set":Str) n2) [e] [] p2) rfl ..) ?_;refine Gj ?_;refine(?_:Wp X A (do sE p2 (<-bU (.Name ("set":Str) n2) env) [] (jC p2 (iS [e] env)) (pb p2 (pd [] env))) _ s);refine ax (wk O E r h2 (by decide+kernel) (.inr O.JP) ?_);refine Pn (plain_any (es:=[e]) (by simp[hs])) (td (plain_any (es:=[e]) (by simp[hs])) ?_);refine aa (wJ hs ..) ?_;refine Gj (h.run ra r rf λp v cN H1 s1 r1 cY vr g1 q=>?_);refine aP ?_;refine bP (q A cN s1 v ra r1 vr) (λv2 s2 x=>?_) λU U x=>x;refine aP ?_;exact bP x (λU U y=>y.trans g1) λU U y=>y
theorem zM{α β:Type}[BEq α][LawfulBEq α]:∀{l:List (α×β)} {a:α} {b:β},(l.map (·.1)).Nodup->(a,b)∈l->l.lookup a=ae b:=by
 intro l;induction l with
 |nil=>
  intro a b hn hm
  first|exact ns hm|exact absurd hm kJ
 |cons dP r ih=>
  rcases dP with⟨c,d⟩
  intro a b hn hm;rw[bB,lz]at hn;refine aa (l6 ..) ?_;rcases cH.mp hm with e|zh
  ·cases e;simp
  ·have dJ:(a==c)=aq:=by
    rewrite[beq_eq_false_iff_ne];intro z;exact hn.1 (bH.mpr ⟨(a,b),zh,z⟩)
   refine aa (dJ ..) ?_;exact ih hn.2 zh
theorem EJ{α β:Type}[BEq α][LawfulBEq α]:∀{l:List (α×β)} {a:α} {b:β},l.lookup a=ae b->(a,b)∈l:=by
 intro l;induction l with
 |nil=>
  intro a b h
  first|exact ns h|exact absurd h kJ
 |cons dP r ih=>
  rcases dP with⟨c,d⟩
  intro a b h;rw[l6]at h;cases e:(a==c)with
  |true=>
   rw[e]at h
   (refine aa (eq_of_beq e ..) ?_;refine aa (mQ h ..) ?_);exact ca
  |false=>
   rw[e]at h;exact cI _ (ih h)
theorem Nu:∀{l:List (Nat×Str)} {i i':Nat} {x:Str},(l.map (·.2)).Nodup->(i,x)∈l->(i',x)∈l->i=i':=by
 intro l;induction l with
 |nil=>intro i i' x _ h;cases h
 |cons a r ih=>
  intro i i' x hn h h';rw[bB,lz]at hn;rcases cH.mp h with e|h<;>rcases cH.mp h' with e'|h'
  ·rw[<-e]at e';injection e'.symm
  ·exact absurd (bH.mpr ⟨(i',x),h',by(refine aQ (e ..) ?_;rfl)⟩) hn.1
  ·exact absurd (bH.mpr ⟨(i,x),h,by(refine aQ (e' ..) ?_;rfl)⟩) hn.1
  ·exact ih hn.2 h h'
theorem yC(dS:env.scope=sc)(nd:(vm.map (·.1)).Nodup)(h:m6 sc cs vm L=ag):jZ env cs vm (fR cs vm L) L/\((fR cs vm L).map (·.1)).Nodup:=by
 unfold m6 at h;refine VG h λh1 h2 h3 h4 h5=>?_
 have h2:=qy.mp h2
 have h3:=qy.mp h3;have bv:((fR cs vm L).map (·.1)).Nodup:=by
  unfold fR;refine aa (iN ..) ?_;rewrite[l7];refine⟨(of_decide_eq_true h4),(List.Sublist.nodup (List.Sublist.map _ List.filter_sublist) nd),λa ha b hb=>?_⟩;rintro rfl;refine ay (bH.mp ha) ?_;rintro z hz rfl;refine ay (bH.mp hb) ?_;intro y hy e
  have h6:=br (h3 z hz)
  have h7:=zM nd ((FU.mp hy).1);rw[e]at h7;rw[h7]at h6;exact ff h6
 refine⟨⟨eq_of_beq h1,λy hy=>u0 (bl (bl (h2 y hy))),λy hy e=>?_,λy hy e=>?_,λi x hm=>⟨eq_of_beq (bl (h3 (i,x) hm)),zM bv (mP _ hm)⟩,λj y e=>?_,λi i' x hm aah=>?_⟩,bv⟩
 ·have:=br (bl (h2 y hy))
  rw[e]at this;exact eq_of_beq this
 ·have:=br (h2 y hy)
  rw[e]at this;subst dS;exact eq_of_beq this
 ·rcases d8.mp (EJ e)with hm|hm
  ·exact .inl hm
  ·have hv:=(FU.mp hm).1
   refine .inr ⟨zM nd hv,by simpa using(FU.mp hm).2,λx hx=>?_⟩
   have h6:=br (h3 (j,x) hx);rw[zM nd hv]at h6;exact ff h6
 ·exact Nu (of_decide_eq_true h5) hm aah
end
end
section
def bq(QB:Bool->HP->Prop):PV->HP->Prop:=λp H=>match p with
 |.bool b=>QB b H
 |_=>False
section
variable{X:Fx}{n:Nat}
def sP(X:Fx)(n:Nat)(env:Env)(vm:Vm)(pe:PE)(e:Expr)(ρ:aJ)(H:HP):Prop:=
 (∀Q,aX X n pe aq ρ H Q->bg X n env vm e ρ H Q)/\(∀QB,aX X n pe ag ρ H (bq QB)->ic X n env vm e ρ H QB)
theorem gG{pe:PE}(hp:Np e=ag)(hv:∀t Q,aX X n pe t ρ H Q->bg X n env vm e ρ H (tq t Q)):sP X n env vm pe e ρ H:=
 ⟨λQ h=>hv aq Q h,λQB h=>afX hp ((hv ag _ h).mono λp H' x=>by
   cases p<;>first|exact x|exact x.elim)⟩
theorem XU{ev vf:aJ->HP->(PV->HP->Prop)->Prop}(h:∀ρ H Q,ev ρ H Q->vf ρ H Q){Q:aJ->aF->HP->Prop}(x:fh ev ρ acc H Q):fh vf ρ acc H Q:=by
 unfold fh at x⊢;split at x
 ·exact⟨x.1,h _ _ _ x.2⟩
 ·exact x
theorem XV{Q:aJ->aF->HP->Prop}(x:fh (λρ H Q=>bg X n env vm e ρ H Q) ρ acc H Q)(i:∀ρ acc H,Q ρ acc H->Q' ρ acc H):fh (λρ H Q=>bg X n env vm e ρ H Q) ρ acc H Q':=by
 unfold fh at x⊢;split at x
 ·exact⟨x.1,x.2.mono λp H' y=>i _ _ _ y⟩
 ·exact x
theorem ab8{ek tc ev vf:aJ->HP->(PV->HP->Prop)->Prop}(hk:∀ρ H Q,ek ρ H Q->tc ρ H Q)(mk:∀ρ H Q Q',tc ρ H Q->(∀p H,Q p H->Q' p H)->tc ρ H Q')(h:∀ρ H Q,ev ρ H Q->vf ρ H Q){Q:aJ->aF->HP->Prop}(x:jN ek ev ρ acc H Q):jN tc vf ρ acc H Q:=by
 unfold jN at x⊢;split at x
 ·refine⟨x.1,mk _ _ _ _ (hk _ _ _ x.2) λq H1 y=>?_⟩
  rcases(cX y)with⟨k,e,y⟩
  refine aa (e ..) ?_;exact h _ _ _ y
 ·exact x
theorem ab9{e1 e2:Expr}{Q:aJ->aF->HP->Prop}(x:jN (λρ H Q=>bg X n env vm e1 ρ H Q) (λρ H Q=>bg X n env vm e2 ρ H Q) ρ acc H Q)(i:∀ρ acc H,Q ρ acc H->Q' ρ acc H):jN (λρ H Q=>bg X n env vm e1 ρ H Q) (λρ H Q=>bg X n env vm e2 ρ H Q) ρ acc H Q':=by
 unfold jN at x⊢;split at x
 ·refine⟨x.1,x.2.mono λq H1 y=>?_⟩
  rcases(cX y)with⟨k,e,y⟩
  refine aa (e ..) ?_;exact y.mono λp H' z=>i _ _ _ z
 ·exact x
theorem ib.mono{es:List Expr}{Q R:List PV->HP->Prop}(h:ib X n env vm es ρ H Q)(i:∀p H,Q p H->R p H):ib X n env vm es ρ H R:=λA β s pos ra r rf=>bP (h A β s pos ra r rf) (λU U zq=>by rcases zq with⟨a,b,c,d,e,f,q⟩;exact⟨a,b,c,d,e,f,i _ _ q⟩) λU U x=>x
theorem wc(dS:env.scope=sc)(h:glob sc x=ag):env.kindOf x=ae .globalImplicit:=by
 subst dS;refine(?_:env.scope.names.lookup x=_);unfold glob at h;simpa using h
theorem Mr:∀{o:Option Nat} {e:Option Expr},E0 o e=ag->(match o,e with|none,ai=>True|some a,ae (.Constant (.int i) _ _)=>i=(a:Int)|_,_=>False):=by
 intro o e h;cases o with
 |none=>cases e with
  |none=>trivial
  |some e=>exact absurd h dG
 |some a=>cases e with
  |none=>exact absurd h dG
  |some e=>
   refine dU (cQ h:∃c k p,e=.Constant c k p) ?_;rintro c k p rfl;obtain rfl:c=.int a:=eq_of_beq (bD (show((vw (.Constant c k p)).k==1&&(vw (.Constant c k p)).c==.int (a:Int))=ag from h));exact rfl
theorem adz{f:Fn}(h:ET f=ag):f≠.jM/\f≠.kP/\f≠.lp/\f≠.kQ:=by
 unfold ET at h;exact VF h λa b c d=>⟨u0 a,u0 b,u0 c,u0 d⟩
structure Ctx(X:Fx)(sc:Scope)(env:Env)(vm:Vm):Prop where
 E:et X env
 dS:env.scope=sc
 V:jG env vm
 nd:(vm.map (·.1)).Nodup
theorem zZ{g:Expr}{b:Bool}(h:((vw g).k==2&&((vw g).x==x&&b))=ag):∃p,g=.Name x p:=by
 refine eC (cQ h:∃y p,g=.Name y p) ?_;rintro y p rfl;obtain rfl:y=x:=ba (bD h) λh U=>eq_of_beq h;exact⟨p,rfl⟩
theorem Ai{a:Expr}(h:((vw a).k==1&&(vw a).c==.str x)=ag):∃k p,a=.Constant (.str x) k p:=by
 refine dU (cQ h:∃c k p,a=.Constant c k p) ?_;rintro c k p rfl;obtain rfl:c=.str x:=eq_of_beq (bD h);exact⟨k,p,rfl⟩
inductive P0{α:Type}(f:α->Bool)(l:List α):Prop
 |mk (a:α) (e:l=[a]) (h:f a=ag)
theorem la{α:Type}{f:α->Bool}{l:List α}(h:mh f ct l=ag):P0 f l:=by
 rcases(i5 h)with⟨a,as,rfl,h1,h2⟩
 obtain rfl:=iI h2;exact⟨a,rfl,h1⟩
theorem yE{el:aJ->HP->(PV->HP->Prop)->Prop}{Q:aJ->aF->HP->Prop}
 (ht:∀ρ H QB,gt ρ H QB->eX X n env vm ifs ρ H QB)(he:∀ρ H Q,el ρ H Q->bg X n env vm e ρ H Q)(k:∀ρ acc H,Q ρ acc H->Q' ρ acc H)(y:cw i gt (fh el) dj xs ρ acc H Q):cw i (λρ H QB=>eX X n env vm ifs ρ H QB) (fh λρ H Q=>bg X n env vm e ρ H Q) dj xs ρ acc H Q':=by
 refine pG ht ?_ ?_ ?_ k y
 ·exactλU U U U z k=>eX.mono z k
 ·exactλU U U U z=>XU he z
 ·exactλU U U U U z k=>XV z k
theorem Xf{it:Expr}{elt:PE}{Q:aJ->aF->HP->Prop}
 (hi:∀{ρ:aJ} {H:HP},sP X n env vm dE it ρ H)(he:∀{ρ:aJ} {H:HP},sP X n env vm elt e ρ H)
 (y:cw i (λU H QB=>QB ag H) (λρ acc H Q=>aX X n dE aq ρ H λp H1=>ok (itemsOf H1 p) λxs=>cw j (λU H QB=>QB ag H) (fh λρ H Q=>aX X n elt aq ρ H Q) (λH'=>cD H1 H' p) xs ρ acc H1 Q) dj xs ρ acc H Q):
 cw i (λρ H QB=>eX X n env vm [] ρ H QB) (λρ acc H Q=>bg X n env vm it ρ H λp H1=>ok (itemsOf H1 p) λxs=>cw j (λρ H QB=>eX X n env vm [] ρ H QB) (fh λρ H Q=>bg X n env vm e ρ H Q) (λH'=>cD H1 H' p) xs ρ acc H1 Q) dj xs ρ acc H Q:=by
 refine pG ?_ ?_ ?_ ?_ (λU U U z=>z) y
 ·exactλU U U z=>z
 ·exactλU U U U z k=>k _ _ z
 ·exactλU U U U z=>(hi.1 _ z).mono λU U x=>mG x λU y=>yE (λU U U z=>z) (λU U U z=>he.1 _ z) (λU U U z=>z) y
 ·exactλU U U U U z k=>bg.mono z λU U x=>mG x λU y=>yE (el:=λρ H Q=>bg X n env vm e ρ H Q) (λU U U z=>z) (λU U U z=>z) k y
theorem Xq{ek ev:Expr}{k v:PE}{Q:aJ->aF->HP->Prop}
 (hk:∀{ρ:aJ} {H:HP},sP X n env vm k ek ρ H)(hv:∀{ρ:aJ} {H:HP},sP X n env vm v ev ρ H)
 (y:cw i (λU H QB=>QB ag H) (jN (λρ H Q=>aX X n k aq ρ H Q) (λρ H Q=>aX X n v aq ρ H Q)) dj xs ρ acc H Q):
 cw i (λρ H QB=>eX X n env vm [] ρ H QB) (jN (λρ H Q=>bg X n env vm ek ρ H Q) (λρ H Q=>bg X n env vm ev ρ H Q)) dj xs ρ acc H Q:=by
 refine pG ?_ ?_ ?_ ?_ (λU U U z=>z) y
 ·exactλU U U z=>z
 ·exactλU U U U z k=>k _ _ z
 ·intro _ _ _ _ z
  refine ab8 ?_ ?_ ?_ z
  ·exactλU U U z=>hk.1 _ z
  ·exactλU U U U z k=>bg.mono z k
  ·exactλU U U z=>hv.1 _ z
 ·exactλU U U U U z k=>ab9 z k
theorem pI{Cc D:aL}(C:Ctx X sc env vm)(nd:((fR cs vm L).map (·.1)).Nodup)(KA:lE X (eO cs env Cc) (fR cs vm L) D):Ctx X (i6 cs sc) (eO cs env Cc) (fR cs vm L):=
 ⟨KA.E,by refine aQ (C.dS ..) ?_;rfl,KA.V,nd⟩
theorem zC{b:Bool}{P P' R R':Prop}(h:if b=ag then P else R)(i:P->P')(j:R->R'):if b=ag then P' else R':=by
 cases b
 ·exact j h
 ·exact i h
theorem Lc{a b:Bool}{P P' R R':Prop}(h:if a=b then P else R)(i:P->P')(j:R->R'):if a=b then P' else R':=by
 cases a<;>cases b<;>first|exact i h|exact j h
def GX(sc:Scope)(vm:Vm)(i:Nat)(it elt:PE)(cs:d9)(e:Expr):Prop:=∃el s p x px bY ifs,e=.ListComp el [⟨.Name x px,bY,ifs,0⟩] s p/\
    m6 sc s vm [(i,x)]=ag/\fy bY=ag/\bK sc vm it bY=ag/\kt (i6 s sc) (fR s vm [(i,x)]) cs ifs=ag/\bK (i6 s sc) (fR s vm [(i,x)]) elt el=ag
theorem I2{elt:PE}{cs:d9}(h:bK sc vm (.comp aY i it cs elt) e=ag):GX sc vm i it elt cs e:=by
 refine oN (cQ h:∃x gs s p,e=.ListComp x gs s p) ?_;rintro el gs s p rfl;rcases(la (bD h))with⟨g,rfl,hg⟩
 rcases(yP hg)with⟨x,px,bY,ifs,rfl,hf⟩
 refine ba hf λh0 h=>ba h λh1 h=>ba h λh2 h=>ba h λh3 h=>ba h λh4 U=>?_;delta GX;exact⟨el,s,p,x,px,bY,ifs,rfl,h0,h1,h2,h3,h4⟩
mutual
theorem cC(O:cj X):∀(pe:PE) {sc:Scope} {vm:Vm} {e:Expr} {env:Env} {ρ:aJ} {H:HP},bK sc vm pe e=ag->Ctx X sc env vm->sP X n env vm pe e ρ H
 |.none,sc,vm,e,env,ρ,H,h,C=>by
  refine dU (cQ h:∃c k p,e=.Constant c k p) ?_;rintro c k p rfl;obtain rfl:c=.none:=eq_of_beq (bD h);exact gG rfl λt Q hq=>yL hq trivial
 |.bool b,sc,vm,e,env,ρ,H,h,C=>by
  refine dU (cQ h:∃c k p,e=.Constant c k p) ?_;rintro c k p rfl;obtain rfl:c=.bool b:=eq_of_beq (bD h);exact gG rfl λt Q hq=>yL hq rfl
 |.int i,sc,vm,e,env,ρ,H,h,C=>by
  refine dU (cQ h:∃c k p,e=.Constant c k p) ?_;rintro c k p rfl;obtain rfl:c=.int i:=eq_of_beq (bD h);exact gG rfl λt Q hq=>yL hq rfl
 |.str x,sc,vm,e,env,ρ,H,h,C=>by
  refine eC (Ai h) ?_;rintro k p rfl;exact gG rfl λt Q hq=>yL hq rfl
 |.var i,sc,vm,e,env,ρ,H,h,C=>by
  refine eC (cQ h:∃x p,e=.Name x p) ?_;rintro x p rfl;refine ba (bD h) λh1 h2=>ba h2 λh2 h3=>gG rfl λt Q hq=>?_;rcases(cX hq)with⟨p,e1,hq⟩
  exact Yy C.E (eq_of_beq h1) ⟨(Ax _).mp h2,(Ax _).mp h3⟩ e1 hq
 |.attr o a,sc,vm,e,env,ρ,H,h,C=>by
  refine dU (cQ h:∃o s p,e=.Attribute o s p) ?_;rintro o' s p rfl;obtain rfl:s=a.str:=ba (bD h) λh U=>eq_of_beq h;exact ba (bD (bD h)) λh U=>ba h λh1 h2=>gG rfl λt Q hq=>Yg O h1 ((cC O o h2 C).1 _ hq)
 |.bin op aY l r,sc,vm,e,env,ρ,H,h,C=>by
  refine oN (cQ h:∃l op r p,e=.BinOp l op r p) ?_;rintro l' EW r' p rfl;obtain rfl:op=EW:=ba (bD h) λh U=>eq_of_beq h;exact ba (bD (bD h)) λh1 h=>ba h λh2 U=>gG rfl λt Q hq=>Yi (((cC O l h1 C).1 _ hq).mono λp H1 x=>(cC O r h2 C).1 _ x)
 |.cmp op l r,sc,vm,e,env,ρ,H,h,C=>by
  refine oN (cQ h:∃l ops rs p,e=.Compare l ops rs p) ?_;rintro l' ops rs p rfl;obtain rfl:ops=[op]:=ba (bD h) λh U=>eq_of_beq h;refine ba (bD (bD h)) λh1 h2=>?_;rcases(la h2)with⟨r',rfl,h3⟩
  exact ba h3 λh0 h2=>⟨λQ hq=>Yk O h0 (((cC O l h1 C).1 _ hq).mono λp H1 x=>(cC O r h2 C).1 _ x),λQB hq=>afU O h0 (((cC O l h1 C).1 _ hq).mono λp H1 x=>(cC O r h2 C).1 _ x)⟩
 |.rj op iJ l m r,sc,vm,e,env,ρ,H,h,C=>by
  refine oN (cQ h:∃l ops rs p,e=.Compare l ops rs p) ?_;rintro l' ops rs p rfl;obtain rfl:ops=[op,iJ]:=ba (bD h) λh U=>eq_of_beq h;refine ba (bD (bD h)) λh1 h2=>?_;rcases(i5 h2)with⟨m',rs,rfl,h4,h3⟩
  rcases(la h3)with⟨r',rfl,h5⟩
  exact ba h5 λh0 h3=>⟨λQ hq=>absurd hq.1 dG,λQB hq=>afV O h0 (((cC O l h1 C).1 _ hq.2).mono λp H1 x=>((cC O m h4 C).1 _ x).mono λq H2 y=>u4 y λb z=>zC z (λz=>(cC O r h3 C).1 _ z) id)⟩
 |.not x,sc,vm,e,env,ρ,H,h,C=>by
  refine eC (cQ h:∃x p,e=.UnaryOp .Not x p) ?_;rintro x' p rfl;exact ba (bD h) λh U=>⟨λQ hq=>absurd hq.1 dG,λQB hq=>afW ((cC O x h C).2 (λb H'=>QB (!b) H') hq.2)⟩
 |.gE op es,sc,vm,e,env,ρ,H,h,C=>by
  refine dU (cQ h:∃op es p,e=.BoolOp op es p) ?_;rintro EW bI p rfl;obtain rfl:op=EW:=ba (bD h) λh U=>eq_of_beq h;exact Fa O es (bD (bD h)) C
 |.ite c a b,sc,vm,e,env,ρ,H,h,C=>by
  refine oN (cQ h:∃c a b p,e=.IfExp c a b p) ?_;rintro c' a' b' p rfl;exact ba (bD h) λh1 h=>ba h λh2 h=>ba h λh3 U=>⟨λQ hq=>Yp (((cC O c h1 C).2 (λt H'=>if t=ag then aX X n a aq ρ H' Q else aX X n b aq ρ H' Q) hq.2).mono λt H' x=>zC x (λx=>(cC O a h2 C).1 _ x) λx=>(cC O b h3 C).1 _ x),λQB hq=>absurd hq.1.symm dG⟩
 |.idx o i,sc,vm,e,env,ρ,H,h,C=>by
  refine dU (cQ h:∃o i p,e=.Subscript o i p) ?_;rintro o' i' p rfl;exact ba (bD h) λh1 h=>ba h λh2 U=>gG rfl λt Q hq=>Yo O (((cC O o h1 C).1 _ hq).mono λp H1 x=>(cC O i h2 C).1 _ x)
 |.jp o lo hi aY,sc,vm,e,env,ρ,H,h,C=>by
  refine dU (cQ h:∃o i p,e=.Subscript o i p) ?_;rintro o' i' p rfl;refine ba (bD h) λh1 h=>ba h λh2 U=>?_;refine dU (cQ h2:∃e1 e2 p,i'=.Slice e1 e2 ai p) ?_;rintro e1 e2 p rfl;exact ba (bD h2) λh3 h4=>ba h4 λh4 U=>gG rfl λt Q hq=>Yv O ⟨Mr h3,Mr h4⟩ ((cC O o h1 C).1 _ hq)
 |.tup es,sc,vm,e,env,ρ,H,h,C=>by
  refine dU (cQ h:∃es k p,e=.Tuple es k p) ?_;rintro bI k p rfl;exact ba (bD h) λh1 h2=>gG rfl λt Q hq=>Yx (qf O es h2 h1 C _ hq)
 |.lst aY es,sc,vm,e,env,ρ,H,h,C=>by
  refine eC (cQ h:∃es p,e=.List es p) ?_;rintro bI p rfl;exact ba (bD h) λh1 h2=>gG rfl λt Q hq=>Ys (qf O es h2 h1 C _ hq)
 |.call f es,sc,vm,e,env,ρ,H,h,C=>by
  refine dU (cQ h:∃f es p,e=.Call f es [] p) ?_;rintro g as p rfl;refine ba (bD h) λh1 h=>ba h λh2 h3=>?_;refine eC (cQ h1:∃x p,g=.Name x p) ?_;rintro x pg rfl;refine ba (bD h1) λh5 h4=>ba h5 λh0 h6=>?_;obtain rfl:x=f.str:=eq_of_beq h0;exact gG rfl λt Q hq=>Yj O C.E h2 (eq_of_beq h6) (wc C.dS h4) (qf O es h3 h2 C _ hq)
 |.cx o f es,sc,vm,e,env,ρ,H,h,C=>by
  refine dU (cQ h:∃f es p,e=.Call f es [] p) ?_;rintro g as p rfl;refine ba (bD h) λh1 h=>ba h λh2 h3=>ba h3 λh3 h4=>?_;refine dU (cQ h1:∃o s p,g=.Attribute o s p) ?_;rintro o' s pg rfl;obtain rfl:s=f.str:=ba (bD h1) λh U=>eq_of_beq h;exact ba (bD (bD h1)) λh5 h=>ba h λh6 h=>ba h λh U=>ba h λh7 h8=>gG rfl λt Q hq=>Yt O h7 h2 (of_decide_eq_true h3) h5 (adz h6) (((cC O o h8 C).1 _ hq).mono λp H1 x=>⟨x.1,qf O es h4 h2 C _ x.2⟩)
 |.new D f1 f2 es,sc,vm,e,env,ρ,H,h,C=>by
  refine dU (cQ h:∃f es p,e=.Call f es [] p) ?_;rintro g as p rfl;refine ba (bD h) λh1 h=>ba h λh2 h3=>?_;refine aM (zZ h1) ?_;rintro pg rfl;exact gG rfl λt Q hq=>Yu O C.E h2 (wc C.dS (bD (bD h1))) (qf O es h3 h2 C _ hq)
 |.bi b aY es,sc,vm,e,env,ρ,H,h,C=>by
  refine dU (cQ h:∃f es p,e=.Call f es [] p) ?_;rintro g as p rfl;refine ba (bD h) λh1 h=>ba h λh2 h3=>?_;refine aM (zZ h1) ?_;rintro pg rfl;exact gG rfl λt Q hq=>Yh O C.E h2 (wc C.dS (bD (bD h1))) (ib.mono (qf O es h3 h2 C _ hq) λps H' x=>We O x)
 |.lm m o es,sc,vm,e,env,ρ,H,h,C=>by
  refine dU (cQ h:∃f es p,e=.Call f es [] p) ?_;rintro g as p rfl;refine ba (bD h) λh1 h=>ba h λh2 h3=>ba h3 λh3 h4=>?_;refine dU (cQ h1:∃o s p,g=.Attribute o s p) ?_;rintro o' s pg rfl;obtain rfl:s=m.str:=ba (bD h1) λh U=>eq_of_beq h;exact ba (bD (bD h1)) λh5 h=>ba h λh U=>ba h λh7 h8=>gG rfl λt Q hq=>Yr O h7 h2 (of_decide_eq_true h3) h5 (((cC O o h8 C).1 _ hq).mono λp H1 x=>⟨x.1,ib.mono (qf O es h4 h2 C _ x.2) λps H' y=>act O y⟩)
 |.r8 aY x,sc,vm,e,env,ρ,H,h,C=>by
  refine dU (cQ h:∃f es p,e=.Call f es [] p) ?_;rintro g as p rfl;refine ba (bD h) λh1 hh=>?_;refine aM (zZ h1) ?_;rintro pg rfl;rcases(la hh)with⟨e2,rfl,h5⟩
  refine dU (cQ h5:∃f es p,e2=.Call f es [] p) ?_;rintro g2 as p2 rfl;refine ba (bD h5) λh2 h6=>?_;refine aM (zZ h2) ?_;rintro ag7 rfl;rcases(la h6)with⟨x',rfl,h7⟩
  exact ba h7 λh3 h4=>gG rfl λt Q hq=>Yw O C.E h3 (wc C.dS (bD (bD h1))) (wc C.dS (bD (bD h2))) ((cC O x h4 C).1 _ hq)
 |.vh y x,sc,vm,e,env,ρ,H,h,C=>by
  refine eC (cQ h:∃es p,e=.JoinedStr es p) ?_;rintro es p rfl;rcases(i5 (bD h))with⟨a,as,rfl,h1,h2⟩
  rcases(la h2)with⟨b,rfl,h3⟩
  refine eC (Ai h1) ?_;rintro k p rfl;refine dU (cQ h3:∃x c p,b=.FormattedValue x c ai p) ?_;rintro x' c p rfl;obtain rfl:c= -1:=ba (bD h3) λh U=>eq_of_beq h;exact ba (bD (bD h3)) λh U=>gG rfl λt Q hq=>Yn O hq.1 ((cC O x h C).1 _ hq.2)
 |.kf T f,sc,vm,e,env,ρ,H,h,C=>by
  refine dU (cQ h:∃ks es p,e=.Dict ks es p) ?_;rintro ks es p rfl;obtain rfl:ks=[]:=ba (bD h) λh U=>iI h;obtain rfl:es=[]:=iI (bD (bD h));refine gG rfl λt Q hq=>Yl _ ?_ hq;cases T
  ·exact .inl rfl
  ·exact .inr rfl
 |.vb x1 x2 f v1 v2,sc,vm,e,env,ρ,H,h,C=>by
  refine dU (cQ h:∃ks es p,e=.Dict ks es p) ?_;rintro ks es p rfl;refine ba (bD h) λh1 h=>ba h λh2 h3=>?_;rcases(i5 h3)with⟨w1,ws,rfl,h4,h5⟩
  rcases(la h5)with⟨w2,rfl,h6⟩
  rcases(i5 h2)with⟨o1,os,rfl,h7,h8⟩
  rcases(la h8)with⟨o2,rfl,h9⟩
  cases o1 with
  |none=>exact absurd h7 dG
  |some a1=>cases o2 with
   |none=>exact absurd h9 dG
   |some a2=>
    refine eC (Ai (a:=a1) h7) ?_;rintro aj aB rfl;refine eC (Ai (a:=a2) h9) ?_;rintro aj aB rfl;exact gG rfl λt Q hq=>Ym O (bne_iff_ne.mp h1) (((cC O v1 h4 C).1 _ hq).mono λp H1 x=>(cC O v2 h6 C).1 _ x)
 |.comp aY i it cs elt,sc,vm,e,env,ρ,H,h,C=>by
  refine Aw (I2 h) ?_;intro el s p x px bY aj;refine ay aj ?_;clear aj;rintro ifs rfl aS;refine lY aS ?_;clear aS;intro h0 h1 h2 h3 h4
  have K:=yC C.dS C.nd h0;exact gG rfl λt Q hq=>Yq (aY:=aY) O C.E C.V K.1 h1 hq.1 (((cC O it h2 C).1 _ hq.2).mono λp H1 x=>mG x λxs y Cc D KA=>
   yE (λU U U z=>M0 O cs h3 (pI C K.2 KA) z) (λU U U z=>(cC O elt h4 (pI C K.2 KA)).1 _ z) (λU U U z=>z) y)
 |.n3 ..,sc,vm,e,env,ρ,H,h,C=>absurd h dG
 |.n5 ..,sc,vm,e,env,ρ,H,h,C=>absurd h dG
theorem qf(O:cj X):∀(ps:d9) {sc:Scope} {vm:Vm} {es:List Expr} {env:Env} {ρ:aJ} {H:HP},kt sc vm ps es=ag->es.all noStar=ag->Ctx X sc env vm->
 ∀Q,iu X n ps ρ H Q->ib X n env vm es ρ H Q
 |.nil,sc,vm,es,env,ρ,H,h,hs,C=>λQ hq=>by
  obtain rfl:=iI h;exact Yc hq
 |.cons p ps,sc,vm,es,env,ρ,H,h,hs,C=>λQ hq=>by
  rcases(i5 h)with⟨e,es,rfl,h1,h2⟩
  exact ba hs λh3 h4=>Yb h3 (((cC O p h1 C).1 _ hq).mono λp H1 x=>qf O ps h2 h4 C _ x)
theorem Fa(O:cj X):∀(ps:d9) {sc:Scope} {vm:Vm} {es:List Expr} {env:Env} {ρ:aJ} {H:HP} {op:BoolOp} {pos:f0},kt sc vm ps es=ag->Ctx X sc env vm->
 (∀Q,lr X n op ps aq ρ H Q->bg X n env vm (.BoolOp op es pos) ρ H Q)/\(∀QB,lr X n op ps ag ρ H (bq QB)->ic X n env vm (.BoolOp op es pos) ρ H QB)
 |.nil,sc,vm,es,env,ρ,H,op,pos,h,C=>by
  obtain rfl:=iI h;exact⟨λQ hq=>absurd hq.1 dG,λQB hq=>afT hq.2⟩
 |.cons p ps,sc,vm,es,env,ρ,H,op,pos,h,C=>by
  rcases(i5 h)with⟨e,es,rfl,h1,h2⟩
  refine⟨λQ hq=>?_,λQB hq=>?_⟩
  ·cases ps with
   |nil=>
    obtain rfl:=iI h2;exact Yf ((cC O p h1 C).1 _ hq)
   |cons p2 tQ=>
    rcases(i5 h2)with⟨e2,es,rfl,_⟩
    refine Ye (pos':=pos) (((cC O p h1 C).1 _ hq).mono λp H1 x=>?_);cases p with
    |bool b=>exact Lc x (λx=>(Fa O (.cons p2 tQ) h2 C).1 _ x) id
    |_=>exact x.elim
  ·exact afS (pos':=pos) (((cC O p h1 C).2 (λb H1=>if b=(op==.And)then lr X n op ps ag ρ H1 (bq QB)else QB b H1) hq).mono λb H1 x=>Lc x (λx=>(Fa O ps h2 C).2 _ x) id)
theorem M0(O:cj X):∀(ps:d9) {sc:Scope} {vm:Vm} {es:List Expr} {env:Env} {ρ:aJ} {H:HP} {QB:Bool->HP->Prop},kt sc vm ps es=ag->Ctx X sc env vm->As X n ps ρ H QB->eX X n env vm es ρ H QB
 |.nil,sc,vm,es,env,ρ,H,QB,h,C,hq=>by
  obtain rfl:=iI h;exact hq
 |.cons p ps,sc,vm,es,env,ρ,H,QB,h,C,hq=>by
  rcases(i5 h)with⟨e,es,rfl,h1,h2⟩
  cases ps with
  |nil=>
   obtain rfl:=iI h2;exact(cC O p h1 C).2 _ hq
  |cons _ _=>exact hq.elim
end
end
end
section
set_option genSizeOf false
set_option genSizeOfSpec false
set_option genInjectivity false
section
variable{X:Fx}{n:Nat}{p:PV}
noncomputable def namesIn(sc:Scope)(ts:List Expr):List Str:=ts.filterMap λ
 |.Name id pos=>if sc.names.lookup id==ae .local&&pos.line==(ts.head?.map (·.pos.line)).getD 0 then ae id else ai
 |_=>ai
noncomputable def Fi(sc:Scope)(ts vs:List Expr):Bool:=!(ts.length==2||ts.length==3)||vs.length !=ts.length||(vs.all noStar&&(namesIn sc ts).length !=ts.length)
noncomputable def Aj(sc:Scope)(ts vs:List Expr):Bool:=(ts.length==2||ts.length==3)&&vs.length==ts.length&&vs.all noStar&&(namesIn sc ts).length==ts.length&&(namesIn sc ts).eraseDups.length==(namesIn sc ts).length&&!(vs.all (foldedForSure 8))&&!(vs.all (constantsAlone 8))
theorem L6{vs:List Expr}(h:vs.all noStar=ag)(he:e∈vs):∀x p,e≠.Starred x p:=by
 intro x p z
 have:=qy.mp h e he;rw[z]at this;exact absurd this dG
theorem afJ{vs:List Expr}{k':Nat}{p p':f0}(E:et X env)(dS:env.scope=sc)(h:Aj sc ts vs=ag):sK [.Tuple ts k p] (.Tuple vs k' p') env=pure (ae (namesIn sc ts)):=by
 unfold Aj at h;refine VI h λh1 h2 h3 h4 h5 h6 h7=>?_;have hb:env.blockKind=.function:=by unfold Gk;refine aa (E.kind ..) ?_;rfl
 subst dS;unfold sK;have e1:(!(ts.length==2||ts.length==3)||vs.length !=ts.length||env.blockKind !=.function)=aq:=by
  refine aa (h1 ..) ?_;refine aa (hb ..) ?_;have:(vs.length !=ts.length)=aq:=by simpa[bne]using h2
  refine aa (this ..) ?_;rfl
 have e4:((namesIn env.scope ts).length !=ts.length||(namesIn env.scope ts).eraseDups.length !=(namesIn env.scope ts).length)=aq:=by
  simp only[bne,h4,h5];rfl
 dsimp only;refine aa (e1 ..) ?_;refine(if_neg dG).trans ?_;refine(if_neg ?_).trans ?_
 ·rewrite[mN]
  (intro aj;refine ay aj ?_;clear aj;intro e he hs)
  have:=L6 h3 he;cases e<;>first|(exact absurd hs dG)|exact this _ _ rfl
 refine(?_:(if((namesIn env.scope ts).length !=ts.length||(namesIn env.scope ts).eraseDups.length !=(namesIn env.scope ts).length)=ag then _ else _)=_);refine aa (e4 ..) ?_;refine(if_neg dG).trans ?_;refine aa (((nt h6)) ..) ?_;refine(if_neg dG).trans ?_;refine aa (((nt h7)) ..) ?_;refine(if_neg dG).trans ?_;rfl
theorem afH{vs:List Expr}{k':Nat}{p p':f0}(E:et X env)(dS:env.scope=sc)(h:Fi sc ts vs=ag):sK [.Tuple ts k p] (.Tuple vs k' p') env=pure ai:=by
 unfold Fi at h;subst dS;unfold sK;dsimp only;by_cases h1:(!(ts.length==2||ts.length==3)||vs.length !=ts.length)=ag
 ·have e1:(!(ts.length==2||ts.length==3)||vs.length !=ts.length||env.blockKind !=.function)=ag:=by refine aa (h1 ..) ?_;rfl
  refine aa (e1 ..) ?_;exact if_pos rfl
 ·rw[FD]at h1
  rw[h1]at h;simp only[FC,mM]at h;have hb:env.blockKind=.function:=by unfold Gk;refine aa (E.kind ..) ?_;rfl
  have e1:(!(ts.length==2||ts.length==3)||vs.length !=ts.length||env.blockKind !=.function)=aq:=by(refine aa (h1 ..) ?_;refine aa (hb ..) ?_);rfl
  refine aa (e1 ..) ?_;refine(if_neg dG).trans ?_;refine(if_neg ?_).trans ?_
  ·rewrite[mN]
   (intro aj;refine ay aj ?_;clear aj;intro e he hs)
   have:=L6 h.1 he;cases e<;>first|(exact absurd hs dG)|exact this _ _ rfl
  have e4:((namesIn env.scope ts).length !=ts.length||(namesIn env.scope ts).eraseDups.length !=(namesIn env.scope ts).length)=ag:=by refine aa (h.2 ..) ?_;rfl
  refine(?_:(if((namesIn env.scope ts).length !=ts.length||(namesIn env.scope ts).eraseDups.length !=(namesIn env.scope ts).length)=ag then _ else _)=_);refine aa (e4 ..) ?_;exact if_pos rfl
noncomputable def Fj(sc:Scope)(t e:Expr):Bool:=cond ((vw t).k==11&&(vw e).k==11) (Fi sc (vw t).es (vw e).es) ((vw t).k !=12)
theorem afI{t:Expr}(E:et X env)(dS:env.scope=sc)(h:Fj sc t e=ag):sK [t] e env=pure ai:=by
 cases t with
 |Tuple ts k p=>
  cases e with
  |Tuple=>exact afH E dS h
  |_=>rfl
 |List=>exact absurd h dG
 |_=>rfl
noncomputable def Nw(sc s:Scope)(y:Str)(ln:Nat)(e:Expr):Bool:=sc.names.lookup y==ae .local&&(ln==e.pos.line&&!(s.names.any λ(n,k)=>n==y&&(k==.local||k==.cell)))
theorem Fp{s:Scope}{y:Str}(E:et X env)(dS:env.scope=sc)(h:Nw sc s y py.line e=ag)
 (hs:∀l,ph e (ae (.Name y py)) l env=pure (env.blockKind==.function&&env.kindOf y==ae .local&&py.line==e.pos.line&&!(s.names.any λ(n,k)=>n==y&&(k==.local||k==.cell))))(l:Nat):ph e (ae (.Name y py)) l env=pure ag:=by
 have hb:env.blockKind=.function:=by unfold Gk;refine aa (E.kind ..) ?_;rfl
 have hk:env.kindOf y=sc.names.lookup y:=by subst dS;rfl
 refine ba h λh1 h=>ba h λh2 h3=>?_
 (rewrite[hs];refine aa (hb ..) ?_;refine aa (hk ..) ?_;refine aa (h1 ..) ?_;refine aa (h2 ..) ?_;refine aa (h3 ..) ?_)
 rfl
noncomputable def z0(sc:Scope)(e t:Expr):Bool:=wx e||!((vw t).k==2&&sc.names.lookup (vw t).x==ae .local)
theorem af5{t:Expr}{l:Nat}(dS:env.scope=sc)(h:z0 sc e t=ag):ph e (ae t) l env=pure aq:=by
 unfold z0 at h;rw[FE]at h;rcases h with h|h
 ·exact ER h
 ·have key:∀(b c:Bool),(b&&(env.kindOf (vw t).x==ae .local)&&c)=aq\/(vw t).k≠2:=by
   intro b c;subst dS;by_cases h2:(vw t).k=2
   ·left
    have h3:(env.kindOf (vw t).x==ae .local)=aq:=by
     rw[h2]at h;exact(Ax _).mp h
    refine aa (h3 ..) ?_;rewrite[NV];rewrite[wV];rfl
   ·exact .inr h2
  cases e with
  |ListComp|SetComp|DictComp=>
   cases t with
   |Name x pos=>exact congrArg pure ((congrArg (·&&_) ((key _ _).resolve_right (absurd rfl))).trans (wV _))
   |_=>rfl
  |_=>rfl
end
set_option genCtorIdx false
inductive PT where
 |name (i:Nat)
 |attr (o:PE) (a:At)
 |item (o i:PE)
 |tup (is:List Nat)
mutual
inductive PS where
 |expr (e:PE)
 |ret (e:PE)
 |ite (c:PE) (a b:iz)
 |oL (c:PE) (b:iz)
 |for (t:PT) (it:PE) (b:iz)
 |vg (i:Nat) (it:PE) (b:iz)
 |asg (t:PT) (e:PE)
 |tV (is:List Nat) (e:PE)
 |pC (iy:Nat) (e:PE)
 |stuck
inductive iz where
 |nil
 |cons (s:PS) (r:iz)
end
set_option genCtorIdx true
noncomputable def nC:aJ->List Nat->List PV->aJ
 |ρ,i::is,p::ps=>nC (aR ρ i p) is ps
 |ρ,_,_=>ρ
section
variable(X:Fx)(n:Nat)
def oM:PT->PV->aJ->HP->(aJ->HP->Prop)->Prop
 |.name i,p,ρ,H,Q=>Q (aR ρ i p) H
 |.attr o a,p,ρ,H,Q=>aX X n o aq ρ H λpo H1=>oH po a p H1 λH2=>Q ρ H2
 |.item o i,p,ρ,H,Q=>aX X n o aq ρ H λpo H1=>aX X n i aq ρ H1 λq H2=>jo po q p H2 λH3=>Q ρ H3
 |.tup is,p,ρ,H,Q=>v8 p=ag/\ok (itemsOf H p) λxs=>is.length=xs.length/\Q (nC ρ is xs) H
mutual
noncomputable def wpS:PS->aJ->HP->(Fl->aJ->HP->Prop)->Prop
 |.expr e,ρ,H,Q=>aX X n e aq ρ H λp H'=>notRef p=ag/\Q .next ρ H'
 |.ret e,ρ,H,Q=>aX X n e aq ρ H λp H'=>Q (.ret p) ρ H'
 |.ite c a b,ρ,H,Q=>aX X n c ag ρ H λp H'=>match p with
  |.bool t=>if t=ag then jU a ρ H' Q else jU b ρ H' Q
  |_=>False
 |.oL c b,ρ,H,Q=>∃I:Nat->aJ->HP->Prop,(∃k,I k ρ H)/\∀k ρ H,I k ρ H->aX X n c ag ρ H λp H'=>match p with
  |.bool t=>if t=ag then jU b ρ H' (λfl aU me=>match fl with
     |.next=>∃m,m<k/\I m aU me
     |.ret p=>Q (.ret p) aU me)else Q .next ρ H'
  |_=>False
 |.for t it b,ρ,H,Q=>aX X n it aq ρ H λp H1=>ok (itemsOf H1 p) λxs=>forR (oM X n t) (λρ H Q=>jU b ρ H Q) (λH'=>cD H1 H' p) xs ρ H1 Q
 |.vg i it b,ρ,H,Q=>aX X n it aq ρ H λp H1=>match p with
    |.ak l=>match H1.get l with
     |some (.aH xs)=>∀o,forR (λx ρ H QA=>QA (aR ρ i x) H) (λρ H Q=>jU b ρ H Q) (λH'=>H'.get l=ae (.fB o xs)) (xs.map λx=>x.1.pv) ρ (H1.set (.fB o xs) l)
       (λfl aU H'=>match fl with
         |.next=>H'.get l=ae (.fB o xs)/\Q .next aU (H'.set (.aH xs) l)
         |.ret _=>False)
     |_=>False
    |_=>False
 |.asg t e,ρ,H,Q=>aX X n e aq ρ H λp H1=>oM X n t p ρ H1 λaU H'=>Q .next aU H'
 |.tV is e,ρ,H,Q=>aX X n e aq ρ H λp H1=>match p with
  |.tup ps=>is.length=ps.length/\Q .next (nC ρ is.reverse ps.reverse) H1
  |_=>False
 |.pC iy e,ρ,H,Q=>aX X n e aq ρ H λp H'=>Q .next (aR ρ iy p) H'
 |.stuck,_,_,_=>False
noncomputable def jU:iz->aJ->HP->(Fl->aJ->HP->Prop)->Prop
 |.nil,ρ,H,Q=>Q .next ρ H
 |.cons s r,ρ,H,Q=>wpS s ρ H λfl aU H'=>match fl with
  |.next=>jU r aU H' Q
  |.ret p=>Q (.ret p) aU H'
end
end
noncomputable def pX(sc:Scope)(vm:Vm)(i:Nat)(x:Str):Bool:=vm.lookup i==ae x&&(sc.names.lookup x==ae .local||sc.names.lookup x==ae .cell)
noncomputable def wl(sc:Scope)(vm:Vm):List Nat->List Expr->Bool
 |[]=>ct
 |i::is=>mh (λe=>(vw e).k==2&&pX sc vm i (vw e).x) (wl sc vm is)
noncomputable def nD(sc:Scope)(vm:Vm):List Nat->List Str->Bool
 |[]=>ct
 |i::is=>mh (pX sc vm i) (nD sc vm is)
noncomputable def wj(sc:Scope)(vm:Vm):PT->Expr->Bool
 |.name i,e=>(vw e).k==2&&pX sc vm i (vw e).x
 |.attr o a,e=>(vw e).k==3&&((vw e).x==a.str&&mh (bK sc vm o) ct (vw e).es)
 |.item o i,e=>(vw e).k==9&&mh (bK sc vm o) (mh (bK sc vm i) ct) (vw e).es
 |.tup is,e=>(vw e).k==11&&((vw e).es.all noStar&&wl sc vm is (vw e).es)
structure Sw where
 k:Nat
 es:List Expr
 a:List fE
 b:List fE
noncomputable def sw(s:fE):Sw:=match s with
 |.Expr e _=>⟨1,[e],[],[]⟩
 |.Return (ae e) _=>⟨2,[e],[],[]⟩
 |.If c a b _=>⟨3,[c],a,b⟩
 |.While c b [] _=>⟨4,[c],b,[]⟩
 |.For t it b [] _=>⟨5,[t,it],b,[]⟩
 |.Assign ts e _=>⟨6,e::ts,[],[]⟩
 |_=>⟨0,[],[],[]⟩
noncomputable def Nm(s:fE):List Prop:=[True,∃e p,s=.Expr e p,∃e p,s=.Return (ae e) p,∃c a b p,s=.If c a b p,∃c b p,s=.While c b [] p,∃t it b p,s=.For t it b [] p,∃ts e p,s=.Assign ts e p]
theorem afG(s:fE):(Nm s).getD (sw s).k True:=by
 cases s with
 |Return e p=>cases e<;>first|exact pn|exact .intro _ (.intro _ rfl)
 |While c b d p=>cases d<;>first|exact pn|exact .intro _ (.intro _ (.intro _ rfl))
 |For t it b d p=>cases d<;>first|exact pn|exact .intro _ (.intro _ (.intro _ (.intro _ rfl)))
 |_=>first|exact pn|exact .intro _ (.intro _ rfl)|exact .intro _ (.intro _ (.intro _ rfl))|exact .intro _ (.intro _ (.intro _ (.intro _ rfl)))
theorem oK{s:fE}{b:Bool}(h:((sw s).k==k&&b)=ag):(Nm s).getD k True:=ba h λh0 U=>(eq_of_beq h0)▸afG s
noncomputable def wi(sc:Scope)(vm:Vm)(pe:PE)(e:Expr):Bool:=match pe with
 |.n3 _ i it j dE elt=>(vw e).k==17&&mh (pL λx bY ifs=>ifs.isEmpty&&(fy bY&&(bK sc vm it bY&&mh (pL λy lP ifs=>ifs.isEmpty&&(m6 sc (vw e).sc vm [(i,x),(j,y)]&&(fy lP&&(bK (i6 (vw e).sc sc) (fR (vw e).sc vm [(i,x),(j,y)]) dE lP&&mh (bK (i6 (vw e).sc sc) (fR (vw e).sc vm [(i,x),(j,y)]) elt) ct (vw e).es)))) ct (vw e).gs.tail))) (λU=>ag) (vw e).gs
 |.n5 _ i it k v=>(vw e).k==18&&mh (pL λx bY ifs=>ifs.isEmpty&&(m6 sc (vw e).sc vm [(i,x)]&&(fy bY&&(bK sc vm it bY&&mh (bK (i6 (vw e).sc sc) (fR (vw e).sc vm [(i,x)]) k) (mh (bK (i6 (vw e).sc sc) (fR (vw e).sc vm [(i,x)]) v) ct) (vw e).es)))) ct (vw e).gs
 |pe=>bK sc vm pe e
noncomputable def abD(pe:PE):Bool:=match pe with
 |.comp .. |.n3 .. |.n5 .. =>ag
 |_=>aq
noncomputable def Cw(sc:Scope)(vm:Vm)(iy:Nat)(pe:PE)(e t:Expr):Bool:=(vw t).k==2&&(Nw sc (vw e).sc (vw t).x (vw t).p e&&(abD pe&&pX sc vm iy (vw t).x))
mutual
noncomputable def LS(sc:Scope)(vm:Vm):PS->fE->Bool
 |.expr e,s=>(sw s).k==1&&mh (λe'=>wx e'&&bK sc vm e e') ct (sw s).es
 |.ret e,s=>(sw s).k==2&&mh (bK sc vm e) ct (sw s).es
 |.ite c a b,s=>(sw s).k==3&&(mh (bK sc vm c) ct (sw s).es&&(kq sc vm a (sw s).a&&kq sc vm b (sw s).b))
 |.oL c b,s=>(sw s).k==4&&(mh (bK sc vm c) ct (sw s).es&&kq sc vm b (sw s).a)
 |.for t it b,s=>(sw s).k==5&&(mh (wj sc vm t) (mh (λbY=>fy bY&&bK sc vm it bY) ct) (sw s).es&&kq sc vm b (sw s).a)
 |.vg i it b,s=>(sw s).k==5&&(mh (λt=>(vw t).k==2&&pX sc vm i (vw t).x) (mh (λbY=>fy bY&&bK sc vm it bY) ct) (sw s).es&&kq sc vm b (sw s).a)
 |.asg t e,s=>(sw s).k==6&&mh (λe'=>bK sc vm e e'&&mh (λt'=>noStar t'&&(z0 sc e' t'&&(Fj sc t' e'&&wj sc vm t t'))) ct (sw s).es.tail) (λU=>ag) (sw s).es
 |.tV is e,s=>(sw s).k==6&&mh (λe'=>bK sc vm e e'&&((vw e').k==11&&mh (λt'=>(vw t').k==11&&(Aj sc (vw t').es (vw e').es&&nD sc vm is (namesIn sc (vw t').es))) ct (sw s).es.tail)) (λU=>ag) (sw s).es
 |.pC iy e,s=>(sw s).k==6&&mh (λe'=>wi sc vm e e'&&mh (Cw sc vm iy e e') ct (sw s).es.tail) (λU=>ag) (sw s).es
 |.stuck,_=>ag
noncomputable def kq(sc:Scope)(vm:Vm):iz->List fE->Bool
 |.nil,ss=>ss.isEmpty
 |.cons p ps,ss=>mh (LS sc vm p) (kq sc vm ps) ss
end
section
variable{X:Fx}{n:Nat}{p:PV}
theorem VV{o i:Expr}(O:cj X)(h:bg X n env vm o ρ H λpo H1=>bg X n env vm i ρ H1 λq H2=>jo po q p H2 λH3=>QA ρ H3):mX X n env vm (.Subscript o i pos) p ρ H QA:=by
 intro A β s v ra r rf hv;have pS:∃f:Value->Value->List Value,jB (.Subscript o i pos) env v=(do
  let ov<-fb [v] (bU o env)
  let iv<-fb [v,ov] (bU i env)
  gx pos
  fb [v,ov,iv] (xD ov iv v)
  release (f ov iv) []):=⟨_,rfl⟩
 refine aM pS ?_;clear pS;intro f hf;refine aa (hf ..) ?_;refine ax (cU (h.run ra r rf λpo ov cN H1 s1 r1 cY Fu g1 q1=>?_));refine ax (cU (q1.run ra r1 cY λq iv eK H2 s2 r2 ir fC g2 q2=>?_));have key:Wp X A (xD ov iv v) (λU s3=>∃h' tk H3,s3={s2 with heap:=h',toks:=tk}/\aW X eK H3 s3/\Go bO eK eK s2.heap h'/\QA ρ H3) s2:=by
  refine aeD O ra r2 (aN.go g2 _ _ Fu) fC (aN.go (g1.trans g2) _ _ hv) ?_;cases po with
  |ak l=>
   refine adI (o:=H2.get l) q2 (λxs q2=>?_) (λxs q2=>mG q2 λk q2=>⟨q2.1,λh' tk r3 g3=>⟨h',tk,_,rfl,r3,g3,q2.2⟩⟩) λxs q2=>mG q2 λk q2=>⟨q2.1,λh' tk r3 g3=>⟨h',tk,_,rfl,r3,g3,q2.2⟩⟩
   cases q with
   |int i=>exact⟨q2.1,λh' tk r3 g3=>⟨h',tk,_,rfl,r3,g3,q2.2⟩⟩
   |_=>exact q2
  |_=>exact q2
 refine ax (fF (ax (cU (bP key (λU s3 zq=>?_) λU U x=>x))));refine se zq ?_;clear zq;intro h' tk H3 e r3 g3 q3;subst e;refine GV ?_;exact⟨eK,H3,ρ,r3,ir.ig (s':={s2 with heap:=h',toks:=tk}) g3,((g1.trans g2).trans g3).toT,q3⟩
theorem EN(C:Ctx X sc env vm)(h:pX sc vm i x=ag):nW env vm i x:=by
 refine ba h λh1 h2=>?_
 have:=C.dS;subst this;exact⟨eq_of_beq h1,((FE _ _).mp h2).imp eq_of_beq eq_of_beq⟩
theorem EO(C:Ctx X sc env vm)(h:((vw e).k==2&&pX sc vm i (vw e).x)=ag):∃x p,e=.Name x p/\nW env vm i x:=by
 refine eC (cQ h:∃x p,e=.Name x p) ?_;rintro x p rfl;exact⟨x,p,rfl,EN C (bD h)⟩
theorem Ng(C:Ctx X sc env vm):∀{is:List Nat} {ts:List Expr} {xs:List PV} {ρ:aJ},wl sc vm is ts=ag->is.length=xs.length->QA (nC ρ is xs) H->sQ X n env vm (ts.map λt=>jB t env) xs ρ H QA
 |[],ts,[],ρ,ht,_,h=>by
  obtain rfl:=iI ht;exact h
 |[],_,_::_,_,_,hl,_=>nomatch hl
 |_::_,_,[],_,_,hl,_=>nomatch hl
 |i::is,ts,x::xs,ρ,h,hl,hq=>by
  rcases(i5 h)with⟨e,es,rfl,h1,h2⟩
  refine cZ (EO C h1) ?_;rintro y p rfl N;exact uU C.E C.V N (Ng C h2 (OM hl) hq)
theorem Ni(C:Ctx X sc env vm):∀{is:List Nat} {ts:List Str} {xs:List PV} {ρ:aJ},nD sc vm is ts=ag->is.length=xs.length->QA (nC ρ is xs) H->sQ X n env vm (ts.map λt=>bindName env t) xs ρ H QA
 |[],ts,[],ρ,ht,_,h=>by
  obtain rfl:=iI ht;exact h
 |[],_,_::_,_,_,hl,_=>nomatch hl
 |_::_,_,[],_,_,hl,_=>nomatch hl
 |i::is,ts,x::xs,ρ,h,hl,hq=>by
  rcases(i5 h)with⟨e,es,rfl,h1,h2⟩
  exact afA C.E C.V (EN C h1) (Ni C h2 (OM hl) hq)
theorem afC:∀{is:List Nat} {ts:List Str},nD sc vm is ts=ag->is.length=ts.length:=by
 intro is;induction is with
 |nil=>
  intro ts h
  obtain rfl:=iI h;rfl
 |cons _ _ ih=>
  intro ts h;rcases(i5 h)with⟨e,es,rfl,_,h2⟩
  exact congrArg AU (ih h2)
theorem afB:∀{is js:List Nat} {ts us:List Str},nD sc vm is ts=ag->nD sc vm js us=ag->nD sc vm (is++js) (ts++us)=ag:=by
 intro is;induction is with
 |nil=>
  intro _ ts _ h h'
  obtain rfl:=iI h;exact h'
 |cons _ _ ih=>
  intro _ ts _ h h';rcases(i5 h)with⟨e,es,rfl,h1,h2⟩
  exact(mM _ _).mpr ⟨h1,ih h2 h'⟩
theorem afD:∀{is:List Nat} {ts:List Str},nD sc vm is ts=ag->nD sc vm is.reverse ts.reverse=ag:=by
 intro is;induction is with
 |nil=>
  intro ts h
  obtain rfl:=iI h;rfl
 |cons i is ih=>
  intro ts h;rcases(i5 h)with⟨e,es,rfl,h1,h2⟩
  refine aa (sr ..) ?_;refine aa (sr ..) ?_;exact afB (ih h2) ((mM _ _).mpr ⟨h1,rfl⟩)
theorem ac4:∀{is:List Nat} {ts:List Expr},wl sc vm is ts=ag->is.length=ts.length:=by
 intro is;induction is with
 |nil=>
  intro ts h
  obtain rfl:=iI h;rfl
 |cons _ _ ih=>
  intro ts h;rcases(i5 h)with⟨e,es,rfl,_,h2⟩
  exact congrArg AU (ih h2)
theorem Jx{yo:PV->aJ->HP->(aJ->HP->Prop)->Prop}{yx:aJ->HP->(Fl->aJ->HP->Prop)->Prop}(ha:∀x ρ H Q,asg x ρ H Q->yo x ρ H Q)(ma:∀x ρ H Q Q',yo x ρ H Q->(∀ρ H,Q ρ H->Q' ρ H)->yo x ρ H Q')(hb:∀ρ H Q,body ρ H Q->yx ρ H Q)(mb:∀ρ H Q Q',yx ρ H Q->(∀fl ρ H,Q fl ρ H->Q' fl ρ H)->yx ρ H Q'):∀{xs:List PV} {ρ:aJ} {H:HP} {Q:Fl->aJ->HP->Prop},forR asg body dj xs ρ H Q->forR yo yx dj xs ρ H Q:=by
 intro xs;induction xs with
 |nil=>
  intro _ _ _ h;exact h
 |cons x xs ih=>
  intro ρ H Q h;rw[forR]at h⊢;refine ma _ _ _ _ _ (ha _ _ _ _ h) λkE H1 h1=>mb _ _ _ _ (hb _ _ _ h1) λfl aU H' h2=>?_;cases fl with
  |next=>exact⟨h2.1,ih h2.2⟩
  |ret p=>exact h2
theorem MZ(O:cj X)(C:Ctx X sc env vm){t:PT}(h:wj sc vm t e=ag)(hq:oM X n t p ρ H QA):mX X n env vm e p ρ H QA:=by
 cases t with
 |name i=>
  refine cZ (EO C h) ?_;rintro y p rfl N;exact uU C.E C.V N hq
 |attr o a=>
  change((vw e).k==3&&((vw e).x==a.str&&mh (bK sc vm o) ct (vw e).es))=ag at h;refine dU (cQ h:∃o s p,e=.Attribute o s p) ?_;rintro o' s p rfl;obtain rfl:s=a.str:=ba (bD h) λh U=>eq_of_beq h;exact ba (bD (bD h)) λh1 U=>VU O ((cC O o h1 C).1 _ hq)
 |item o i=>
  change((vw e).k==9&&mh (bK sc vm o) (mh (bK sc vm i) ct) (vw e).es)=ag at h;refine dU (cQ h:∃o i p,e=.Subscript o i p) ?_;rintro o' i' p rfl;exact ba (bD h) λh1 h=>ba h λh2 U=>VV O (((cC O o h1 C).1 _ hq).mono λpo H1 x=>(cC O i h2 C).1 _ x)
 |tup is=>
  change((vw e).k==11&&((vw e).es.all noStar&&wl sc vm is (vw e).es))=ag at h;refine dU (cQ h:∃es k p,e=.Tuple es k p) ?_;rintro bI k p rfl;rcases(cX hq.2)with⟨xs,e2,h3⟩
  exact ba (bD h) λh1 h2=>VW O h1 hq.1 e2 ((ac4 h2).symm.trans h3.1) (Ng C h2 h3.1 h3.2)
end
end
section
set_option genSizeOf false
set_option genSizeOfSpec false
set_option genInjectivity false
section
variable{X:Fx}{n:Nat}
def GW(sc:Scope)(vm:Vm)(i j:Nat)(it dE elt:PE)(e:Expr):Prop:=∃el s p x px bY y py lP,e=.ListComp el [⟨.Name x px,bY,[],0⟩,⟨.Name y py,lP,[],0⟩] s p/\
    fy bY=ag/\bK sc vm it bY=ag/\m6 sc s vm [(i,x),(j,y)]=ag/\fy lP=ag/\bK (i6 s sc) (fR s vm [(i,x),(j,y)]) dE lP=ag/\bK (i6 s sc) (fR s vm [(i,x),(j,y)]) elt el=ag
theorem Xe{elt:PE}(h:wi sc vm (.n3 aY i it j dE elt) e=ag):GW sc vm i j it dE elt e:=by
 change((vw e).k==17&&mh (pL λx bY ifs=>ifs.isEmpty&&(fy bY&&(bK sc vm it bY&&mh (pL λy lP ifs=>ifs.isEmpty&&(m6 sc (vw e).sc vm [(i,x),(j,y)]&&(fy lP&&(bK (i6 (vw e).sc sc) (fR (vw e).sc vm [(i,x),(j,y)]) dE lP&&mh (bK (i6 (vw e).sc sc) (fR (vw e).sc vm [(i,x),(j,y)]) elt) ct (vw e).es)))) ct (vw e).gs.tail))) (λU=>ag) (vw e).gs)=ag at h;refine oN (cQ h:∃x gs s p,e=.ListComp x gs s p) ?_;rintro el gs s p rfl;rcases(i5 (bD h))with⟨g,gs,rfl,hg,_⟩
 rcases(yP hg)with⟨x,px,bY,ifs,rfl,hf⟩
 refine ba hf λh0 h=>ba h λh1 h=>ba h λh2 hh=>?_
 obtain rfl:=iI h0;rcases(la hh)with⟨g,rfl,ms⟩
 rcases(yP ms)with⟨y,py,lP,ifs,rfl,Df⟩
 refine ba Df λh0 h=>ba h λh5 h=>ba h λmi h=>ba h λh3 h=>ba h λh4 U=>?_
 obtain rfl:=iI h0;delta GW;exact⟨el,s,p,x,px,bY,y,py,lP,rfl,h1,h2,h5,mi,h3,h4⟩
def GY(sc:Scope)(vm:Vm)(i:Nat)(it k v:PE)(e:Expr):Prop:=∃ke ve s p x px bY,e=.DictComp ke ve [⟨.Name x px,bY,[],0⟩] s p/\
    m6 sc s vm [(i,x)]=ag/\fy bY=ag/\bK sc vm it bY=ag/\bK (i6 s sc) (fR s vm [(i,x)]) k ke=ag/\bK (i6 s sc) (fR s vm [(i,x)]) v ve=ag
theorem Xp{f:dn}{k v:PE}(h:wi sc vm (.n5 f i it k v) e=ag):GY sc vm i it k v e:=by
 change((vw e).k==18&&mh (pL λx bY ifs=>ifs.isEmpty&&(m6 sc (vw e).sc vm [(i,x)]&&(fy bY&&(bK sc vm it bY&&mh (bK (i6 (vw e).sc sc) (fR (vw e).sc vm [(i,x)]) k) (mh (bK (i6 (vw e).sc sc) (fR (vw e).sc vm [(i,x)]) v) ct) (vw e).es)))) ct (vw e).gs)=ag at h;refine agw (cQ h:∃k v gs s p,e=.DictComp k v gs s p) ?_;rintro ke ve gs s p rfl;rcases(la (bD h))with⟨g,rfl,hg⟩
 rcases(yP hg)with⟨x,px,bY,ifs,rfl,hf⟩
 refine ba hf λh0 h=>ba h λh5 h=>ba h λh1 h=>ba h λh2 h=>ba h λh3 h=>ba h λh4 U=>?_
 obtain rfl:=iI h0;delta GY;exact⟨ke,ve,s,p,x,px,bY,rfl,h5,h1,h2,h3,h4⟩
set_option tactic.hygienic true in
theorem ae9(O:cj X){Q:Fl->aJ->HP->Prop}{pe:PE}{t:Expr}(C:Ctx X sc env vm)(hc:Cw sc vm iy pe e t=ag)(h:wi sc vm pe e=ag)
 (hq:aX X n pe aq ρ H λp H'=>Q .next (aR ρ iy p) H'):iX X n env vm (.Assign [t] e r7) ρ H Q:=by
 refine eC (cQ hc:∃x p,t=.Name x p) ?_;rintro y py rfl;refine ba (bD hc) λhu kR=>ba kR λ_ hn=>?_
 have N:=EN C hn;cases pe
 case comp aY i it cs elt kR=>
  refine Aw (I2 (aY:=aY) h) ?_;intro el s p x px bY aj;refine ay aj ?_;clear aj;rintro ifs rfl aS;refine lY aS ?_;clear aS;intro h0 h1 h2 h3 h4
  have K:=yC C.dS C.nd h0;exact afs (aY:=aY) O C.E C.V K.1 h1 hq.1 (Fp C.E C.dS hu (λ_=>rfl) _) N (((cC O it h2 C).1 _ hq.2).mono λp H1 x=>mG x λxs y Cc D KA=>
   yE (λ_ _ _ z=>M0 O cs h3 (pI C K.2 KA) z) (λ_ _ _ z=>(cC O elt h4 (pI C K.2 KA)).1 _ z) (λ_ _ _ z=>z) y)
 case n3 aY i it j dE elt kR=>
  refine Aw (Xe h) ?_;intro el s p x px bY aj;refine fL aj ?_;clear aj;rintro y py lP rfl aS;refine t6 aS ?_;clear aS;intro h1 h2 h5 mi h3 h4
  have K:=yC C.dS C.nd h5;exact aft (aY:=aY) O C.E C.V K.1 h1 mi hq.1 (Fp C.E C.dS hu (λ_=>rfl) _) N (((cC O it h2 C).1 _ hq.2).mono λp H1 x=>mG x λxs y Cc D KA=>
   Xf (cC O dE h3 (pI C K.2 KA)) (cC O elt h4 (pI C K.2 KA)) y)
 case n5 f i it k v kR=>
  refine Aw (Xp h) ?_;intro ke ve s p x px aj;refine ay aj ?_;clear aj;rintro bY rfl aS;refine lY aS ?_;clear aS;intro h5 h1 h2 h3 h4
  have K:=yC C.dS C.nd h5;exact afn (f:=f) O C.E C.V K.1 h1 hq.1 (Fp C.E C.dS hu (λ_=>rfl) _) N (((cC O it h2 C).1 _ hq.2).mono λp H1 x=>mG x λxs y Cc D KA=>
   Xq (cC O k h3 (pI C K.2 KA)) (cC O v h4 (pI C K.2 KA)) y)
 all_goals exact absurd (ba kR λh _=>h) dG
mutual
theorem ae8(O:cj X):∀(ps:PS) {sc:Scope} {vm:Vm} {st:fE} {env:Env} {ρ:aJ} {H:HP} {Q:Fl->aJ->HP->Prop},LS sc vm ps st=ag->Ctx X sc env vm->wpS X n ps ρ H Q->iX X n env vm st ρ H Q
 |.expr e,sc,vm,st,env,ρ,H,Q,h,C,hq=>by
  change((sw st).k==1&&mh (λe'=>wx e'&&bK sc vm e e') ct (sw st).es)=ag at h;refine eC (oK h:∃e p,st=.Expr e p) ?_;rintro e' p rfl;exact ba (bD h) λh U=>ba h λh1 h2=>afo C.E h1 ((cC O e h2 C).1 _ hq)
 |.ret e,sc,vm,st,env,ρ,H,Q,h,C,hq=>by
  change((sw st).k==2&&mh (bK sc vm e) ct (sw st).es)=ag at h;refine eC (oK h:∃e p,st=.Return (ae e) p) ?_;rintro e' p rfl;exact ba (bD h) λh U=>afu ((cC O e h C).1 _ hq)
 |.ite c a b,sc,vm,st,env,ρ,H,Q,h,C,hq=>by
  change((sw st).k==3&&(mh (bK sc vm c) ct (sw st).es&&(kq sc vm a (sw st).a&&kq sc vm b (sw st).b)))=ag at h;refine oN (oK h:∃c a b p,st=.If c a b p) ?_;rintro c' a' b' p rfl;exact ba (bD h) λh1 h=>ba h1 λh1 U=>ba h λh2 h3=>afr (((cC O c h1 C).2 (λt H'=>if t=ag then jU X n a ρ H' Q else jU X n b ρ H' Q) hq).mono λt H' x=>zC x (λx=>rZ O a h2 C x) λx=>rZ O b h3 C x)
 |.oL c b,sc,vm,st,env,ρ,H,Q,h,C,hq=>by
  change((sw st).k==4&&(mh (bK sc vm c) ct (sw st).es&&kq sc vm b (sw st).a))=ag at h;refine dU (oK h:∃c b p,st=.While c b [] p) ?_;rintro c' b' p rfl;refine ay hq ?_;clear hq;intro I aj turn;refine aM aj ?_;clear aj;intro k0 h0;exact ba (bD h) λh1 h2=>ba h1 λh1 U=>afw I k0 h0 λk aU H' hi=>((cC O c h1 C).2 (λt H1=>if t=ag then jU X n b aU H1 (λfl aU me=>match fl with
   |.next=>∃m,m<k/\I m aU me
   |.ret p=>Q (.ret p) aU me)else Q .next aU H1) (turn k aU H' hi)).mono λt H1 x=>zC x (λx=>rZ O b h2 C x) id
 |.for t it b,sc,vm,st,env,ρ,H,Q,h,C,hq=>by
  change((sw st).k==5&&(mh (wj sc vm t) (mh (λbY=>fy bY&&bK sc vm it bY) ct) (sw st).es&&kq sc vm b (sw st).a))=ag at h;refine oN (oK h:∃t it b p,st=.For t it b [] p) ?_;rintro t' bY b' p rfl;refine ba (bD h) λh1 h2=>ba h1 λh3 h4=>ba h4 λh4 U=>ba h4 λh5 h6=>afp O h5 (((cC O it h6 C).1 _ hq).mono λp H1 x=>mG x λxs y=>?_);refine Jx ?_ ?_ ?_ ?_ y
  ·exactλx ρ H Q z=>MZ O C h3 z
  ·exactλU U U U U z k=>nX.mono z k
  ·exactλρ H Q z=>rZ O b h2 C z
  ·exactλU U U U z k=>iW.mono z k
 |.vg i it b,sc,vm,st,env,ρ,H,Q,h,C,hq=>by
  change((sw st).k==5&&(mh (λt=>(vw t).k==2&&pX sc vm i (vw t).x) (mh (λbY=>fy bY&&bK sc vm it bY) ct) (sw st).es&&kq sc vm b (sw st).a))=ag at h;refine oN (oK h:∃t it b p,st=.For t it b [] p) ?_;rintro t' bY b' p rfl;refine ba (bD h) λh1 h2=>ba h1 λh3 h4=>ba h4 λh4 U=>ba h4 λh5 h6=>?_;refine cZ (EO C h3) ?_;rintro y py rfl N;refine afq O h5 (((cC O it h6 C).1 _ hq).mono λp H1 x=>?_);cases p with
  |ak l=>
   revert x
   refine(?_:(match H1.get l with|some (.aH xs)=>_|_=>False)->(match H1.get l with|some (.aH xs)=>_|_=>False));cases H1.get l with
   |none=>exact id
   |some q=>cases q with
    |aH xs=>
     intro x o;refine Jx ?_ ?_ ?_ ?_ (x o)
     ·exactλx ρ H Q z=>uU C.E C.V N z
     ·exactλU U U U U z k=>nX.mono z k
     ·exactλρ H Q z=>rZ O b h2 C z
     ·exactλU U U U z k=>iW.mono z k
    |_=>exact id
  |_=>exact x
 |.asg t e,sc,vm,st,env,ρ,H,Q,h,C,hq=>by
  change((sw st).k==6&&mh (λe'=>bK sc vm e e'&&mh (λt'=>noStar t'&&(z0 sc e' t'&&(Fj sc t' e'&&wj sc vm t t'))) ct (sw st).es.tail) (λU=>ag) (sw st).es)=ag at h;refine dU (oK h:∃ts e p,st=.Assign ts e p) ?_;rintro ts e' p rfl;refine ba (bD h) λh0 U=>ba h0 λh1 h2=>?_;rcases(la h2)with⟨t',rfl,h3⟩
  exact ba h3 λh3 h=>ba h λh4 h=>ba h λh5 h6=>afm h3 (af5 C.dS h4) (afI C.E C.dS h5) (((cC O e h1 C).1 _ hq).mono λp H1 x=>MZ O C h6 x)
 |.tV is e,sc,vm,st,env,ρ,H,Q,h,C,hq=>by
  change((sw st).k==6&&mh (λe'=>bK sc vm e e'&&((vw e').k==11&&mh (λt'=>(vw t').k==11&&(Aj sc (vw t').es (vw e').es&&nD sc vm is (namesIn sc (vw t').es))) ct (sw st).es.tail)) (λU=>ag) (sw st).es)=ag at h;refine dU (oK h:∃ts e p,st=.Assign ts e p) ?_;rintro ts e' p rfl;refine ba (bD h) λh0 U=>ba h0 λh1 h2=>?_;refine dU (cQ h2:∃es k p,e'=.Tuple es k p) ?_;rintro vs k pv rfl;rcases(la (bD h2))with⟨t',rfl,h3⟩
  refine dU (cQ h3:∃es k p,t'=.Tuple es k p) ?_;rintro us k' pt rfl;refine ba (bD h3) λh4 h5=>afv O (ER rfl) (afJ C.E C.dS h4) (((cC O e h1 C).1 _ hq).mono λp H1 x=>?_);cases p with
  |tup ps=>exact⟨(afC h5).symm.trans x.1,Ni C (afD h5) (by(refine aa (Op ..) ?_;refine aa (Op ..) ?_);exact x.1) x.2⟩
  |_=>exact x.elim
 |.pC iy e,sc,vm,st,env,ρ,H,Q,h,C,hq=>by
  change((sw st).k==6&&mh (λe'=>wi sc vm e e'&&mh (Cw sc vm iy e e') ct (sw st).es.tail) (λU=>ag) (sw st).es)=ag at h;refine dU (oK h:∃ts e p,st=.Assign ts e p) ?_;rintro ts e' p rfl;refine ba (bD h) λh0 U=>ba h0 λh1 h2=>?_;rcases(la h2)with⟨t',rfl,h3⟩
  exact ae9 O C h3 h1 hq
 |.stuck,sc,vm,st,env,ρ,H,Q,h,C,hq=>hq.elim
theorem rZ(O:cj X):∀(ps:iz) {sc:Scope} {vm:Vm} {ss:List fE} {env:Env} {ρ:aJ} {H:HP} {Q:Fl->aJ->HP->Prop},kq sc vm ps ss=ag->Ctx X sc env vm->jU X n ps ρ H Q->iW X n env vm ss ρ H Q
 |.nil,sc,vm,ss,env,ρ,H,Q,h,C,hq=>by
  obtain rfl:=iI h;exact afl hq
 |.cons p r,sc,vm,ss,env,ρ,H,Q,h,C,hq=>by
  rcases(i5 h)with⟨s,ss,rfl,h1,h2⟩
  refine afk ((ae8 O p h1 C hq).mono λfl aU H' x=>?_);cases fl with
  |next=>exact rZ O r h2 C x
  |ret p=>exact x
end
structure cl where
 as:List Str
 vm:Vm
 k:Nat
 ps:iz
noncomputable def Ft(M:cl):Bool:=decide (M.vm.map (·.1)).Nodup&&decide (M.vm.map (·.2)).Nodup&&(bw M.as.length).all λi=>M.vm.lookup i==M.as[i]?
theorem YF(O:cj X){f:Fn}{fd:AX}{o:Obj}{body:List fE}{M:cl}(F:Bv X f fd o as body)(ha:as.map (·.arg)=M.as)(hv:Ft M=ag)(hm:kq fd.scope M.vm M.ps body=ag)(hl:args.length=M.as.length)
 (h:jU X n M.ps (ce args M.k) H λfl U H'=>Q (match fl with|.next=> .none|.ret p=>p) H'):bC X (n+1) f args H Q:=by
 unfold Ft at hv;refine VE hv λaa6 vR Dz=>?_;have tm:as.length=M.as.length:=by refine aQ (ha ..) ?_;simp
 refine YE (vm:=M.vm) (k:=M.k) O F (λi x hi e=>?_) (hl.trans tm.symm) λenv E dS=>?_
 ·have:=qy.mp Dz i (er.mpr (eE tm hi))
  rw[e]at this;refine aa (ha ..) ?_;exact(eq_of_beq this).symm
 ·have V:jG env M.vm:=⟨λi j x hi hj=>by
   exact Nu (of_decide_eq_true vR) (EJ hi) (EJ hj)⟩
  exact rZ O M.ps hm ⟨E,dS,V,of_decide_eq_true aa6⟩ h
end
end
section
noncomputable def EG:cl:=⟨["op"],[(0,"op"),(1,"digits")],2,(.cons (.asg (.name 1) (.ite (.cmp .Eq (.jp (.var 0) ai (ae 1) ai) (.str "-")) (.jp (.var 0) (ae 1) ai ai) (.var 0))) (.cons (.ite (.gE .Or (.cons (.not (.rj .Lt .LtE (.int 0) (.bi .len ai (.cons (.var 1) .nil)) (.int 1000))) (.cons (.cmp .NotEq (.comp ai 2 (.var 1) (.cons (.cmp .NotIn (.var 2) (.str "0123456789")) .nil) (.var 2)) (.lst ai .nil)) .nil))) (.cons (.ret .none) .nil) .nil) (.cons (.ret (.bi .intOf ai (.cons (.var 0) .nil))) .nil)))⟩
noncomputable def Er:cl:=⟨["self","op","values"],[(0,"self"),(1,"op"),(2,"values"),(3,"number"),(4,"found"),(5,"names"),(6,"name")],5,(.cons (.asg (.name 3) (.ite (.gE .And (.cons (.cmp .Eq (.jp (.var 1) ai (ae 3) ai) (.str "var")) (.cons (.cmp .Eq (.bi .len ai (.cons (.var 2) .nil)) (.int 0)) .nil))) (.call .sd (.cons (.jp (.var 1) (ae 3) ai ai) .nil)) .none)) (.cons (.ite (.gE .And (.cons (.cmp .IsNot (.var 3) .none) (.cons (.cmp .GtE (.var 3) (.int 0)) (.cons (.cmp .Eq (.var 1) (.vh "var" (.var 3))) .nil)))) (.cons (.ret (.tup (.cons (.var 3) .nil))) .nil) .nil) (.cons (.ite (.cmp .In .none (.var 2)) (.cons (.ret .none) .nil) .nil) (.cons (.asg (.name 4) (.kf aq .t)) (.cons (.for (.name 5) (.var 2) (.cons (.for (.name 6) (.var 5) (.cons (.asg (.item (.var 4) (.var 6)) (.bool ag)) .nil)) .nil)) (.cons (.ite (.gE .And (.cons (.cmp .Eq (.var 1) (.str "lam")) (.cons (.cmp .Eq (.bi .len ai (.cons (.var 2) .nil)) (.int 1)) .nil))) (.cons (.ret (.bi .tupleOf ai (.cons (.comp ai 7 (.bi .sorted ai (.cons (.var 4) .nil)) (.cons (.cmp .Gt (.var 7) (.int 0)) .nil) (.bin .Sub ai (.var 7) (.int 1))) .nil))) .nil) .nil) (.cons (.ret (.bi .tupleOf ai (.cons (.bi .sorted ai (.cons (.var 4) .nil)) .nil))) .nil)))))))⟩
noncomputable def Eb:cl:=⟨["self","one","other"],[(0,"self"),(1,"one"),(2,"other")],1,(.cons (.ite (.gE .Or (.cons (.cmp .Is (.var 1) .none) (.cons (.cmp .Is (.var 2) .none) .nil))) (.cons (.ret (.ite (.cmp .Is (.var 1) .none) (.var 2) (.var 1))) .nil) .nil) (.cons (.ret (.bi .tupleOf ai (.cons (.comp ai 3 (.var 1) (.cons (.cmp .In (.var 3) (.var 2)) .nil) (.var 3)) .nil))) .nil))⟩
noncomputable def wh:cl:=⟨["self","heap","analysis"],[(0,"self"),(1,"heap"),(2,"analysis")],0,(.cons (.asg (.attr (.var 0) .heap) (.var 1)) (.cons (.asg (.attr (.var 0) .iB) (.var 2)) (.cons (.asg (.attr (.var 0) .values) (.kf aq .v)) (.cons (.asg (.attr (.var 0) .kA) (.kf aq .s)) .nil))))⟩
noncomputable def EF:cl:=⟨["self","c"],[(0,"self"),(1,"c")],0,(.cons (.ret (.lm .get (.attr (.var 0) .values) (.cons (.cx (.attr (.var 0) .heap) .find (.cons (.var 1) .nil)) .nil))) .nil)⟩
noncomputable def D2:cl:=⟨["self"],[(0,"self"),(1,"found"),(2,"c"),(3,"kept")],3,(.cons (.asg (.name 1) (.kf aq .v)) (.cons (.for (.name 2) (.bi .sorted ai (.cons (.attr (.var 0) .values) .nil)) (.cons (.asg (.name 3) (.cx (.attr (.var 0) .heap) .find (.cons (.var 2) .nil))) (.cons (.asg (.item (.var 1) (.var 3)) (.cx (.attr (.var 0) .iB) .joined (.cons (.lm .get (.var 1) (.cons (.var 3) .nil)) (.cons (.idx (.attr (.var 0) .values) (.var 2)) .nil)))) .nil))) (.cons (.asg (.attr (.var 0) .values) (.var 1)) .nil)))⟩
noncomputable def Eu:cl:=⟨["self","c"],[(0,"self"),(1,"c"),(2,"found"),(3,"node"),(4,"kids")],4,(.cons (.asg (.name 2) (.lm .get (.attr (.var 0) .values) (.cons (.var 1) .nil))) (.cons (.for (.name 3) (.cx (.attr (.var 0) .heap) .pY (.cons (.var 1) .nil)) (.cons (.pC 4 (.comp ai 5 (.jp (.var 3) (ae 1) ai ai) .nil (.lm .get (.attr (.var 0) .values) (.cons (.var 5) .nil)))) (.cons (.asg (.name 2) (.cx (.attr (.var 0) .iB) .joined (.cons (.var 2) (.cons (.cx (.attr (.var 0) .iB) .mF (.cons (.idx (.var 3) (.int 0)) (.cons (.var 4) .nil))) .nil)))) .nil))) (.cons (.ret (.var 2)) .nil)))⟩
noncomputable def Ed:cl:=⟨["self"],[(0,"self"),(1,"row"),(2,"waiting"),(3,"spot"),(4,"c"),(5,"found"),(6,"user"),(7,"late")],8,(.cons (.expr (.cx (.var 0) .begun .nil)) (.cons (.asg (.name 1) (.bi .listOf (ae .t) (.cons (.cx (.attr (.var 0) .heap) .classes .nil) .nil))) (.cons (.pC 2 (.n5 .t 8 (.var 1) (.var 8) (.bool ag))) (.cons (.asg (.name 3) (.int 0)) (.cons (.oL (.cmp .Lt (.var 3) (.bi .len ai (.cons (.var 1) .nil))) (.cons (.tV [4,3] (.tup (.cons (.idx (.var 1) (.var 3)) (.cons (.bin .Add ai (.var 3) (.int 1)) .nil)))) (.cons (.expr (.lm .jI (.var 2) (.cons (.var 4) .nil))) (.cons (.asg (.name 5) (.cx (.var 0) .p9 (.cons (.var 4) .nil))) (.cons (.ite (.cmp .NotEq (.var 5) (.lm .get (.attr (.var 0) .values) (.cons (.var 4) .nil))) (.cons (.asg (.item (.attr (.var 0) .values) (.var 4)) (.var 5)) (.cons (.for (.name 6) (.cx (.attr (.var 0) .heap) .qp (.cons (.var 4) .nil)) (.cons (.asg (.name 7) (.cx (.attr (.var 0) .heap) .find (.cons (.var 6) .nil))) (.cons (.ite (.cmp .NotIn (.var 7) (.var 2)) (.cons (.asg (.item (.var 2) (.var 7)) (.bool ag)) (.cons (.expr (.lm .append (.var 1) (.cons (.var 7) .nil))) .nil)) .nil) .nil))) .nil)) .nil) .nil))))) .nil)))))⟩
noncomputable def D8:cl:=⟨["text"],[(0,"text")],1,(.cons (.ret (.gE .And (.cons (.cmp .NotEq (.var 0) (.str "")) (.cons (.cmp .Eq (.comp ai 1 (.var 0) (.cons (.gE .Or (.cons (.lm .isspace (.var 1) .nil) (.cons (.cmp .In (.var 1) (.str "()[]{},:")) .nil))) .nil) (.var 1)) (.lst ai .nil)) .nil)))) .nil)⟩
noncomputable def D1:cl:=⟨["self"],[(0,"self")],0,(.cons (.asg (.attr (.var 0) .nodes) (.lst (ae .s) .nil)) (.cons (.asg (.attr (.var 0) .jQ) (.kf ag .s)) (.cons (.asg (.attr (.var 0) .lX) (.lst (ae .s) .nil)) (.cons (.asg (.attr (.var 0) .nb) (.lst (ae .s) .nil)) .nil))))⟩
noncomputable def acT:cl:=⟨["self"],[(0,"self")],0,(.cons (.ret (.bi .len ai (.cons (.attr (.var 0) .nodes) .nil))) .nil)⟩
noncomputable def Ex:cl:=⟨["self","op","kids"],[(0,"self"),(1,"op"),(2,"kids"),(3,"node"),(4,"kid")],4,(.cons (.asg (.name 3) (.bin .Add ai (.tup (.cons (.var 1) .nil)) (.bi .tupleOf ai (.cons (.var 2) .nil)))) (.cons (.ite (.cmp .In (.var 3) (.attr (.var 0) .jQ)) (.cons (.ret (.idx (.attr (.var 0) .jQ) (.var 3))) .nil) .nil) (.cons (.expr (.cx (.var 0) .qb (.cons (.var 1) .nil))) (.cons (.for (.name 4) (.jp (.var 3) (ae 1) ai ai) (.cons (.ite (.not (.rj .LtE .Lt (.int 0) (.var 4) (.bi .len ai (.cons (.attr (.var 0) .nodes) .nil)))) (.cons .stuck .nil) .nil) .nil)) (.cons (.asg (.item (.attr (.var 0) .jQ) (.var 3)) (.bi .len ai (.cons (.attr (.var 0) .nodes) .nil))) (.cons (.expr (.lm .append (.attr (.var 0) .nodes) (.cons (.var 3) .nil))) (.cons (.expr (.lm .append (.attr (.var 0) .lX) (.cons (.bin .Add ai (.int 1) (.bi .sum ai (.cons (.comp ai 5 (.jp (.var 3) (ae 1) ai ai) .nil (.idx (.attr (.var 0) .lX) (.var 5))) .nil))) .nil))) (.cons (.expr (.lm .append (.attr (.var 0) .nb) (.cons (.bin .Add ai (.int 1) (.bi .max ai (.cons (.bin .Add ai (.comp ai 6 (.jp (.var 3) (ae 1) ai ai) .nil (.idx (.attr (.var 0) .nb) (.var 6))) (.lst ai (.cons (.int 0) .nil))) .nil))) .nil))) (.cons (.ret (.bin .Sub ai (.bi .len ai (.cons (.attr (.var 0) .nodes) .nil)) (.int 1))) .nil)))))))))⟩
noncomputable def Ev:cl:=⟨["self","op"],[(0,"self"),(1,"op")],0,(.cons (.ite (.gE .Or (.cons (.not (.call .rI (.cons (.var 1) .nil))) (.cons (.cmp .Eq (.idx (.var 1) (.int 0)) (.str "?")) .nil))) (.cons .stuck .nil) .nil) .nil)⟩
noncomputable def Es:cl:=⟨["self","n"],[(0,"self"),(1,"n")],0,(.cons (.ret (.idx (.idx (.attr (.var 0) .nodes) (.var 1)) (.int 0))) .nil)⟩
noncomputable def Ee:cl:=⟨["self","n"],[(0,"self"),(1,"n")],0,(.cons (.ret (.jp (.idx (.attr (.var 0) .nodes) (.var 1)) (ae 1) ai ai)) .nil)⟩
noncomputable def EA:cl:=⟨["self"],[(0,"self")],0,(.cons (.asg (.attr (.var 0) .above) (.lst (ae .s) .nil)) (.cons (.asg (.attr (.var 0) .bx) (.lst (ae .s) .nil)) (.cons (.asg (.attr (.var 0) .merged) (.lst (ae .s) .nil)) .nil)))⟩
noncomputable def Ei:cl:=⟨["self"],[(0,"self")],0,(.cons (.expr (.lm .append (.attr (.var 0) .above) (.cons (.bi .len ai (.cons (.attr (.var 0) .above) .nil)) .nil))) (.cons (.expr (.lm .append (.attr (.var 0) .bx) (.cons (.lst (ae .l) (.cons (.bi .len ai (.cons (.attr (.var 0) .bx) .nil)) .nil)) .nil))) (.cons (.ret (.bin .Sub ai (.bi .len ai (.cons (.attr (.var 0) .above) .nil)) (.int 1))) .nil)))⟩
noncomputable def ED:cl:=⟨["self"],[(0,"self")],0,(.cons (.ret (.bi .len ai (.cons (.attr (.var 0) .above) .nil))) .nil)⟩
noncomputable def Ez:cl:=⟨["self","a"],[(0,"self"),(1,"a")],0,(.cons (.oL (.cmp .NotEq (.idx (.attr (.var 0) .above) (.var 1)) (.var 1)) (.cons (.asg (.name 1) (.idx (.attr (.var 0) .above) (.var 1))) .nil)) (.cons (.ret (.var 1)) .nil))⟩
noncomputable def EC:cl:=⟨["self","a","b"],[(0,"self"),(1,"a"),(2,"b"),(3,"kept"),(4,"gone")],2,(.cons (.asg (.tup [3,4]) (.bi .sorted ai (.cons (.lst ai (.cons (.cx (.var 0) .mH (.cons (.var 1) .nil)) (.cons (.cx (.var 0) .mH (.cons (.var 2) .nil)) .nil))) .nil))) (.cons (.ite (.cmp .Eq (.var 3) (.var 4)) (.cons (.ret .none) .nil) .nil) (.cons (.asg (.item (.attr (.var 0) .above) (.var 4)) (.var 3)) (.cons (.expr (.lm .extend (.idx (.attr (.var 0) .bx) (.var 3)) (.cons (.idx (.attr (.var 0) .bx) (.var 4)) .nil))) (.cons (.expr (.lm .append (.attr (.var 0) .merged) (.cons (.tup (.cons (.var 3) (.cons (.var 4) .nil))) .nil))) (.cons (.ret (.tup (.cons (.var 3) (.cons (.var 4) .nil)))) .nil))))))⟩
noncomputable def EB:cl:=⟨["self","a"],[(0,"self"),(1,"a")],0,(.cons (.ret (.bi .sorted ai (.cons (.idx (.attr (.var 0) .bx) (.cx (.var 0) .mH (.cons (.var 1) .nil))) .nil))) .nil)⟩
noncomputable def Ey:cl:=⟨["self"],[(0,"self")],1,(.cons (.ret (.comp ai 1 (.bi .range ai (.cons (.bi .len ai (.cons (.attr (.var 0) .above) .nil)) .nil)) (.cons (.cmp .Eq (.idx (.attr (.var 0) .above) (.var 1)) (.var 1)) .nil) (.var 1))) .nil)⟩
noncomputable def D6:cl:=⟨["self"],[(0,"self")],0,(.cons (.asg (.attr (.var 0) .gC) (.new .jD .s .s .nil)) (.cons (.asg (.attr (.var 0) .gu) (.new .j8 .s .s .nil)) (.cons (.asg (.attr (.var 0) .dc) (.lst (ae .s) .nil)) (.cons (.asg (.attr (.var 0) .dO) (.lst (ae .s) .nil)) (.cons (.asg (.attr (.var 0) .known) (.kf ag .s)) (.cons (.asg (.attr (.var 0) .above) (.kf aq .s)) (.cons (.asg (.attr (.var 0) .waiting) (.lst (ae .s) .nil)) .nil)))))))⟩
noncomputable def Eo:cl:=⟨["self","n"],[(0,"self"),(1,"n")],1,(.cons (.ret (.bin .Add ai (.tup (.cons (.cx (.attr (.var 0) .gC) .op (.cons (.var 1) .nil)) .nil)) (.bi .tupleOf ai (.cons (.comp ai 2 (.cx (.attr (.var 0) .gC) .kids (.cons (.var 1) .nil)) .nil (.cx (.var 0) .find (.cons (.var 2) .nil))) .nil)))) .nil)⟩
noncomputable def DZ:cl:=⟨["self","op","numbers"],[(0,"self"),(1,"op"),(2,"numbers"),(3,"n"),(4,"c")],3,(.cons (.asg (.name 3) (.cx (.attr (.var 0) .gC) .take (.cons (.var 1) (.cons (.var 2) .nil)))) (.cons (.ite (.cmp .Lt (.var 3) (.cx (.attr (.var 0) .gu) .qn .nil)) (.cons (.ret (.var 3)) .nil) .nil) (.cons (.expr (.cx (.attr (.var 0) .gu) .make .nil)) (.cons (.asg (.item (.attr (.var 0) .above) (.var 3)) (.lst (ae .a) .nil)) (.cons (.for (.name 4) (.r8 ai (.comp ai 5 (.var 2) .nil (.cx (.var 0) .find (.cons (.var 5) .nil)))) (.cons (.expr (.lm .append (.idx (.attr (.var 0) .above) (.var 4)) (.cons (.var 3) .nil))) .nil)) (.cons (.expr (.cx (.var 0) .oq (.cons (.var 3) .nil))) (.cons (.ret (.var 3)) .nil)))))))⟩
noncomputable def Eg:cl:=⟨["self","n"],[(0,"self"),(1,"n"),(2,"other")],1,(.cons (.asg (.name 2) (.lm .li (.attr (.var 0) .known) (.cons (.cx (.var 0) .node (.cons (.var 1) .nil)) (.cons (.var 1) .nil)))) (.cons (.ite (.cmp .NotEq (.cx (.var 0) .find (.cons (.var 2) .nil)) (.cx (.var 0) .find (.cons (.var 1) .nil))) (.cons (.expr (.cx (.var 0) .join (.cons (.var 2) (.cons (.var 1) (.cons (.tup (.cons (.str "like") .nil)) .nil))))) .nil) .nil) .nil))⟩
noncomputable def m_find:cl:=⟨["self","n"],[(0,"self"),(1,"n")],0,(.cons (.ret (.cx (.attr (.var 0) .gu) .mH (.cons (.var 1) .nil))) .nil)⟩
noncomputable def El:cl:=⟨["self","a","b","reason"],[(0,"self"),(1,"a"),(2,"b"),(3,"reason")],0,(.cons (.ret (.cx (.var 0) .join (.cons (.var 1) (.cons (.var 2) (.cons (.var 3) .nil))))) .nil)⟩
noncomputable def Ea:cl:=⟨["self","a","b","reason"],[(0,"self"),(1,"a"),(2,"b"),(3,"reason"),(4,"merged"),(5,"kept"),(6,"gone")],3,(.cons (.expr (.lm .append (.attr (.var 0) .dc) (.cons (.tup (.cons (.var 1) (.cons (.var 2) (.cons (.var 3) .nil)))) .nil))) (.cons (.asg (.name 4) (.cx (.attr (.var 0) .gu) .qm (.cons (.var 1) (.cons (.var 2) .nil)))) (.cons (.ite (.cmp .Is (.var 4) .none) (.cons (.ret (.bool aq)) .nil) .nil) (.cons (.asg (.tup [5,6]) (.var 4)) (.cons (.expr (.lm .append (.attr (.var 0) .dO) (.cons (.bin .Sub ai (.bi .len ai (.cons (.attr (.var 0) .dc) .nil)) (.int 1)) .nil))) (.cons (.expr (.lm .extend (.attr (.var 0) .waiting) (.cons (.idx (.attr (.var 0) .above) (.var 6)) .nil))) (.cons (.asg (.item (.attr (.var 0) .above) (.var 5)) (.bin .Add (ae .a) (.idx (.attr (.var 0) .above) (.var 5)) (.lm .jI (.attr (.var 0) .above) (.cons (.var 6) .nil)))) (.cons (.ret (.bool ag)) .nil))))))))⟩
noncomputable def Ew:cl:=⟨["self"],[(0,"self")],0,(.cons (.oL (.cmp .Gt (.bi .len ai (.cons (.attr (.var 0) .waiting) .nil)) (.int 0)) (.cons (.expr (.cx (.var 0) .oq (.cons (.lm .pop (.attr (.var 0) .waiting) .nil) .nil))) .nil)) .nil)⟩
noncomputable def D3:cl:=⟨["self"],[(0,"self")],0,(.cons (.ret (.cx (.attr (.var 0) .gu) .qk .nil)) .nil)⟩
noncomputable def Ek:cl:=⟨["self","c"],[(0,"self"),(1,"c")],0,(.cons (.ret (.cx (.attr (.var 0) .gu) .ql (.cons (.var 1) .nil))) .nil)⟩
noncomputable def Ep:cl:=⟨["self","c"],[(0,"self"),(1,"c")],1,(.cons (.ret (.r8 ai (.comp ai 2 (.cx (.var 0) .members (.cons (.var 1) .nil)) .nil (.cx (.var 0) .node (.cons (.var 2) .nil))))) .nil)⟩
noncomputable def EE:cl:=⟨["self","c"],[(0,"self"),(1,"c")],0,(.cons (.ret (.r8 ai (.idx (.attr (.var 0) .above) (.cx (.var 0) .find (.cons (.var 1) .nil))))) .nil)⟩
noncomputable def Ef:cl:=⟨[],[],0,(.cons (.ret (.lst ai (.cons (.str "var0") (.cons (.str "var1") (.cons (.str "var2") (.cons (.str "c") (.cons (.str "var") (.cons (.str "var01") (.cons (.str "var-1") .nil))))))))) .nil)⟩
noncomputable def D5:cl:=⟨["feed","many"],[(0,"feed"),(1,"many"),(2,"spot")],1,(.cons (.asg (.name 2) (.idx (.var 0) (.str "spot"))) (.cons (.asg (.item (.var 0) (.str "spot")) (.bin .Add ai (.var 2) (.int 1))) (.cons (.ret (.bin .Mod ai (.ite (.cmp .Lt (.var 2) (.bi .len ai (.cons (.idx (.var 0) (.str "cells")) .nil))) (.idx (.idx (.var 0) (.str "cells")) (.var 2)) (.bin .FloorDiv ai (.bin .Add ai (.bin .Add ai (.bin .Mult ai (.bin .Mult ai (.int 5) (.var 2)) (.var 2)) (.bin .Mult ai (.int 7) (.var 2))) (.int 3)) (.int 2))) (.var 1))) .nil)))⟩
noncomputable def Em:cl:=⟨["bits"],[(0,"bits")],1,(.cons (.ret (.bi .tupleOf ai (.cons (.comp ai 1 (.bi .range ai (.cons (.int 12) .nil)) (.cons (.cmp .Eq (.bin .BitAnd ai (.bin .RShift ai (.var 0) (.var 1)) (.int 1)) (.int 1)) .nil) (.var 1)) .nil))) .nil)⟩
noncomputable def Et:cl:=⟨["op","some"],[(0,"op"),(1,"some"),(2,"total"),(3,"bits")],2,(.cons (.ite (.gE .And (.cons (.cmp .In (.var 0) (.tup (.cons (.str "var0") (.cons (.str "var1") (.cons (.str "var2") .nil))))) (.cons (.cmp .Eq (.var 1) (.lst ai .nil)) .nil))) (.cons (.ret (.bin .LShift ai (.int 1) (.bi .intOf ai (.cons (.idx (.var 0) (.int 3)) .nil)))) .nil) .nil) (.cons (.asg (.name 2) (.int 0)) (.cons (.for (.name 3) (.var 1) (.cons (.asg (.name 2) (.bin .BitOr ai (.var 2) (.var 3))) .nil)) (.cons (.ret (.ite (.gE .And (.cons (.cmp .Eq (.var 0) (.str "lam")) (.cons (.cmp .Eq (.bi .len ai (.cons (.var 1) .nil)) (.int 1)) .nil))) (.bin .RShift ai (.var 2) (.int 1)) (.var 2))) .nil))))⟩
noncomputable def Ej:cl:=⟨["rows","pairs"],[(0,"rows"),(1,"pairs"),(2,"marks"),(3,"goes_on"),(4,"heads"),(5,"due"),(6,"n"),(7,"head"),(8,"a"),(9,"b"),(10,"one"),(11,"other")],12,(.cons (.asg (.tup [2,3]) (.tup (.cons (.bi .listOf ai (.cons (.bi .range ai (.cons (.bi .len ai (.cons (.var 0) .nil)) .nil)) .nil)) (.cons (.bool ag) .nil)))) (.cons (.oL (.var 3) (.cons (.asg (.name 3) (.bool aq)) (.cons (.asg (.name 4) (.kf ag .t)) (.cons (.asg (.name 5) (.bi .listOf (ae .t) (.cons (.var 1) .nil))) (.cons (.for (.name 6) (.bi .range ai (.cons (.bi .len ai (.cons (.var 0) .nil)) .nil)) (.cons (.asg (.name 7) (.bin .Add ai (.tup (.cons (.idx (.idx (.var 0) (.var 6)) (.int 0)) .nil)) (.bi .tupleOf ai (.cons (.comp ai 12 (.jp (.idx (.var 0) (.var 6)) (ae 1) ai ai) .nil (.idx (.var 2) (.var 12))) .nil)))) (.cons (.expr (.lm .append (.var 5) (.cons (.tup (.cons (.lm .li (.var 4) (.cons (.var 7) (.cons (.var 6) .nil))) (.cons (.var 6) .nil))) .nil))) .nil))) (.cons (.for (.tup [8,9]) (.var 5) (.cons (.asg (.tup [10,11]) (.tup (.cons (.idx (.var 2) (.var 8)) (.cons (.idx (.var 2) (.var 9)) .nil)))) (.cons (.ite (.cmp .NotEq (.var 10) (.var 11)) (.cons (.asg (.name 2) (.comp ai 13 (.var 2) .nil (.ite (.cmp .Eq (.var 13) (.var 11)) (.var 10) (.var 13)))) (.cons (.asg (.name 3) (.bool ag)) .nil)) .nil) .nil))) .nil)))))) (.cons (.ret (.var 2)) .nil)))⟩
noncomputable def Eh:cl:=⟨["rows","marks"],[(0,"rows"),(1,"marks"),(2,"lots"),(3,"goes_on"),(4,"n"),(5,"ways"),(6,"kid"),(7,"way"),(8,"bits")],10,(.cons (.asg (.tup [2,3]) (.tup (.cons (.bi .dictOf (ae .t) (.cons (.comp ai 9 (.var 1) .nil (.tup (.cons (.var 9) (.cons (.kf aq .t) .nil)))) .nil)) (.cons (.bool ag) .nil)))) (.cons (.oL (.var 3) (.cons (.asg (.name 3) (.bool aq)) (.cons (.for (.name 4) (.bi .range ai (.cons (.bi .len ai (.cons (.var 0) .nil)) .nil)) (.cons (.asg (.name 5) (.lst ai (.cons (.lst ai .nil) .nil))) (.cons (.for (.name 6) (.jp (.idx (.var 0) (.var 4)) (ae 1) ai ai) (.cons (.pC 5 (.n3 ai 10 (.var 5) 11 (.bi .sorted ai (.cons (.idx (.var 2) (.idx (.var 1) (.var 6))) .nil)) (.bin .Add ai (.var 10) (.lst ai (.cons (.var 11) .nil))))) .nil)) (.cons (.for (.name 7) (.var 5) (.cons (.asg (.name 8) (.call .over (.cons (.idx (.idx (.var 0) (.var 4)) (.int 0)) (.cons (.var 7) .nil)))) (.cons (.ite (.cmp .NotIn (.var 8) (.idx (.var 2) (.idx (.var 1) (.var 4)))) (.cons (.asg (.item (.idx (.var 2) (.idx (.var 1) (.var 4))) (.var 8)) (.bool ag)) (.cons (.asg (.name 3) (.bool ag)) .nil)) .nil) .nil))) .nil)))) .nil))) (.cons (.ret (.var 2)) .nil)))⟩
noncomputable def En:cl:=⟨["lot"],[(0,"lot"),(1,"found"),(2,"bits")],2,(.cons (.asg (.name 1) (.int 4095)) (.cons (.vg 2 (.var 0) (.cons (.asg (.name 1) (.bin .BitAnd ai (.var 1) (.var 2))) .nil)) (.cons (.ret (.call .names (.cons (.var 1) .nil))) .nil)))⟩
noncomputable def D9:cl:=⟨["analysis","feed"],[(0,"analysis"),(1,"feed"),(2,"op"),(3,"some"),(4,"late")],6,(.cons (.asg (.name 2) (.idx (.lst ai (.cons (.str "lam") (.cons (.str "app") (.cons (.str "var1") (.cons (.str "var2") (.cons (.str "var01") (.cons (.str "f") .nil))))))) (.call .draw (.cons (.var 1) (.cons (.int 6) .nil))))) (.cons (.pC 3 (.comp ai 5 (.bi .range ai (.cons (.call .draw (.cons (.var 1) (.cons (.int 3) .nil))) .nil)) .nil (.call .draw (.cons (.var 1) (.cons (.int 16) .nil))))) (.cons (.ite (.cmp .NotEq (.cx (.var 0) .mF (.cons (.var 2) (.cons (.comp ai 6 (.var 3) .nil (.call .names (.cons (.var 6) .nil))) .nil))) (.call .names (.cons (.call .over (.cons (.var 2) (.cons (.var 3) .nil))) .nil))) (.cons (.ret (.bool aq)) .nil) .nil) (.cons (.asg (.name 4) (.bin .Add ai (.comp ai 7 (.var 3) .nil (.call .names (.cons (.var 7) .nil))) (.lst ai (.cons .none .nil)))) (.cons (.ret (.gE .And (.cons (.cmp .Is (.cx (.var 0) .mF (.cons (.var 2) (.cons (.var 4) .nil))) .none) (.cons (.cmp .Eq (.cx (.var 0) .joined (.cons .none (.cons (.tup (.cons (.int 0) (.cons (.int 2) .nil))) .nil))) (.tup (.cons (.int 0) (.cons (.int 2) .nil)))) .nil)))) .nil)))))⟩
noncomputable def D0:cl:=⟨["heap","rows","op","kids"],[(0,"heap"),(1,"rows"),(2,"op"),(3,"kids"),(4,"n")],1,(.cons (.asg (.name 4) (.cx (.var 0) .add (.cons (.var 2) (.cons (.var 3) .nil)))) (.cons (.ite (.cmp .Eq (.var 4) (.bi .len ai (.cons (.var 1) .nil))) (.cons (.expr (.lm .append (.var 1) (.cons (.bin .Add ai (.tup (.cons (.var 2) .nil)) (.var 3)) .nil))) .nil) .nil) (.cons (.ret (.cmp .Eq (.idx (.var 1) (.var 4)) (.bin .Add ai (.tup (.cons (.var 2) .nil)) (.var 3)))) .nil)))⟩
noncomputable def D4:cl:=⟨["feed","heap","rows","pairs"],[(0,"feed"),(1,"heap"),(2,"rows"),(3,"pairs"),(4,"way"),(5,"x"),(6,"y"),(7,"op")],4,(.cons (.tV [4,5,6] (.tup (.cons (.call .draw (.cons (.var 0) (.cons (.int 6) .nil))) (.cons (.call .draw (.cons (.var 0) (.cons (.bi .len ai (.cons (.var 2) .nil)) .nil))) (.cons (.call .draw (.cons (.var 0) (.cons (.bi .len ai (.cons (.var 2) .nil)) .nil))) .nil))))) (.cons (.ite (.cmp .Eq (.var 4) (.int 0)) (.cons (.ret (.call .added (.cons (.var 1) (.cons (.var 2) (.cons (.str "lam") (.cons (.tup (.cons (.var 5) .nil)) .nil)))))) .nil) .nil) (.cons (.ite (.cmp .Eq (.var 4) (.int 1)) (.cons (.ret (.call .added (.cons (.var 1) (.cons (.var 2) (.cons (.str "app") (.cons (.tup (.cons (.var 5) (.cons (.var 6) .nil))) .nil)))))) .nil) .nil) (.cons (.ite (.cmp .Eq (.var 4) (.int 2)) (.cons (.asg (.name 7) (.idx (.lst ai (.cons (.str "f") (.cons (.str "var1") (.cons (.str "lam") .nil)))) (.call .draw (.cons (.var 0) (.cons (.int 3) .nil))))) (.cons (.ret (.call .added (.cons (.var 1) (.cons (.var 2) (.cons (.var 7) (.cons (.ite (.cmp .Eq (.var 7) (.str "lam")) (.tup (.cons (.var 5) (.cons (.var 6) .nil))) (.tup (.cons (.var 5) .nil))) .nil)))))) .nil)) .nil) (.cons (.expr (.lm .append (.var 3) (.cons (.tup (.cons (.var 5) (.cons (.var 6) .nil))) .nil))) (.cons (.expr (.cx (.var 1) .merge (.cons (.var 5) (.cons (.var 6) (.cons (.tup (.cons (.str "told") (.cons (.bin .Add ai (.str "t") (.bi .strOf ai (.cons (.bi .len ai (.cons (.var 3) .nil)) .nil))) .nil))) .nil))))) (.cons (.ret (.bool ag)) .nil)))))))⟩
noncomputable def D7:cl:=⟨["keeper","rows","pairs"],[(0,"keeper"),(1,"rows"),(2,"pairs"),(3,"marks"),(4,"lots")],3,(.cons (.asg (.name 3) (.call .marks (.cons (.var 1) (.cons (.var 2) .nil)))) (.cons (.asg (.name 4) (.call .bx (.cons (.var 1) (.cons (.var 3) .nil)))) (.cons (.ret (.cmp .Eq (.comp ai 5 (.bi .range ai (.cons (.bi .len ai (.cons (.var 1) .nil)) .nil)) (.cons (.cmp .NotEq (.cx (.var 0) .value (.cons (.var 5) .nil)) (.call .rR (.cons (.idx (.var 4) (.idx (.var 3) (.var 5))) .nil))) .nil) (.var 5)) (.lst ai .nil))) .nil)))⟩
noncomputable def zN:cl:=⟨["script"],[(0,"script"),(1,"feed"),(2,"heap"),(3,"rows"),(4,"pairs"),(5,"analysis"),(6,"keeper"),(7,"first"),(8,"op"),(9,"turn"),(10,"lap"),(11,"late")],13,(.cons (.asg (.name 1) (.vb "cells" "spot" .s (.comp ai 12 (.jp (.var 0) ai (ae 48) ai) .nil (.bin .Mod ai (.bi .intOf ai (.cons (.var 12) .nil)) (.int 1000003))) (.int 0))) (.cons (.asg (.tup [2,3,4,5]) (.tup (.cons (.new .Heap .s .s .nil) (.cons (.lst (ae .s) .nil) (.cons (.lst (ae .s) .nil) (.cons (.new .fG .s .s .nil) .nil)))))) (.cons (.asg (.name 6) (.new .Keeper .s .s (.cons (.var 2) (.cons (.var 5) .nil)))) (.cons (.asg (.name 7) (.call .draw (.cons (.var 1) (.cons (.int 3) .nil)))) (.cons (.for (.name 8) (.lst ai (.cons (.idx (.call .pV .nil) (.var 7)) (.cons (.idx (.call .pV .nil) (.bin .Add ai (.int 3) (.call .draw (.cons (.var 1) (.cons (.int 4) .nil))))) (.cons (.str "var0") (.cons (.str "var1") .nil))))) (.cons (.ite (.not (.call .added (.cons (.var 2) (.cons (.var 3) (.cons (.var 8) (.cons (.tup .nil) .nil)))))) (.cons (.ret (.bool aq)) .nil) .nil) .nil)) (.cons (.for (.name 9) (.bi .range ai (.cons (.bin .Add ai (.int 2) (.call .draw (.cons (.var 1) (.cons (.int 2) .nil)))) .nil)) (.cons (.for (.name 10) (.bi .range ai (.cons (.bin .Add ai (.int 2) (.call .draw (.cons (.var 1) (.cons (.int 3) .nil)))) .nil)) (.cons (.ite (.not (.call .rk (.cons (.var 1) (.cons (.var 2) (.cons (.var 3) (.cons (.var 4) .nil)))))) (.cons (.ret (.bool aq)) .nil) .nil) .nil)) (.cons (.expr (.cx (.var 2) .settle .nil)) (.cons (.expr (.cx (.var 6) .oo .nil)) (.cons (.ite (.gE .Or (.cons (.not (.call .rJ (.cons (.var 5) (.cons (.var 1) .nil)))) (.cons (.not (.call .rH (.cons (.var 6) (.cons (.var 3) (.cons (.var 4) .nil))))) .nil))) (.cons (.ret (.bool aq)) .nil) .nil) .nil))))) (.cons (.asg (.name 11) (.new .Keeper .s .s (.cons (.var 2) (.cons (.new .fG .s .s .nil) .nil)))) (.cons (.expr (.cx (.var 11) .oo .nil)) (.cons (.ret (.cmp .Eq (.comp ai 13 (.bi .range ai (.cons (.bi .len ai (.cons (.var 3) .nil)) .nil)) (.cons (.cmp .NotEq (.cx (.var 11) .value (.cons (.var 13) .nil)) (.cx (.var 6) .value (.cons (.var 13) .nil))) .nil) (.var 13)) (.lst ai .nil))) .nil)))))))))⟩
noncomputable def abE:Value->Bool
 |.none=>ag
 |_=>aq
noncomputable def ad3(p:Arguments):Bool:=match p with
 |⟨po,_,va,ko,kd,kw,df⟩=>po.isEmpty&&va.isNone&&ko.isEmpty&&kd.isEmpty&&kw.isNone&&df.isEmpty
noncomputable def pK(K:Frag)(f:Fn)(M:cl):Bool:=match K.lookup f.addr with
 |some o=>match o.data with
  |.func fd=>match fd.body with
   |.stmts body=>ad3 fd.params&&abE fd.defaults&&decide (fd.params.args.map (·.arg)).Nodup&&fd.closure.isEmpty&&fd.globals==nT&&fd.builtins==A9&&fd.scope.kind==.function&&!fd.scope.isCoroutine&&!fd.scope.isGenerator&&
      codeIn K fd.code fd.qualname&&fd.params.args.all (λa=>fd.scope.names.lookup a.arg==ae .local||fd.scope.names.lookup a.arg==ae .cell)&&fd.params.args.map (·.arg)==M.as&&Ft M&&kq fd.scope M.vm M.ps body
   |_=>aq
  |_=>aq
 |none=>aq
section
variable{X:Fx}{n:Nat}
set_option tactic.hygienic true in
theorem Jv(O:cj X){f:Fn}{M:cl}(hc:pK X.K f M=ag)(hl:args.length=M.as.length)
 (h:jU X n M.ps (ce args M.k) H λfl _ H'=>Q (match fl with|.next=> .none|.ret p=>p) H'):bC X (n+1) f args H Q:=by
 unfold pK at hc;split at hc
 ·rename_i o e1
  split at hc
  ·rename_i fd e2
   split at hc
   ·rename_i body e3
    refine VD hc λc1 c2 c3 c4 c5 c6 c7 c8 c9 WN WO WP WQ WR=>?_;have F:Bv X f fd o fd.params.args body:=by
     refine⟨e1,e2,?_,?_,of_decide_eq_true c3,e3,ul.mp c4,eq_of_beq c5,eq_of_beq c6,eq_of_beq c7,nt c8,nt c9,WN,λa ha=>?_⟩
     ·cases hp:fd.params with
      |mk po ar va ko kd kw df=>
       rw[hp]at c1;refine VH c1 λd1 d2 d3 d4 d5 d6=>?_;refine aa (ul.mp d1 ..) ?_;refine aa (OQ.mp d2 ..) ?_;refine aa (ul.mp d3 ..) ?_;refine aa (ul.mp d4 ..) ?_;refine aa (OQ.mp d5 ..) ?_;refine aa (ul.mp d6 ..) ?_;rfl
     ·cases hd:fd.defaults<;>rw[hd]at c2<;>first|rfl|exact ff c2
     ·exact(Bool.or_eq_true_iff.mp (qy.mp WO a ha)).imp eq_of_beq eq_of_beq
    exact YF O F (eq_of_beq WP) WQ WR hl h
   ·exact ff hc
  ·exact ff hc
 ·exact ff hc
end
end
section
section
variable{X:Fx}{n:Nat}
def Mf(p:PV)(k:Bool->Prop):Prop:=match p with|.bool t=>k t|_=>False
def Ml(p:PV)(k:Int->Prop):Prop:=match p with|.int t=>k t|_=>False
def Mj(p:PV)(k:List PV->Prop):Prop:=match p with|.tup t=>k t|_=>False
theorem ef{b:Bool}{k:Bool->Prop}:Mf (.bool b) k=k b:=rfl
theorem adJ{b:Int}{k:Int->Prop}:Ml (.int b) k=k b:=rfl
theorem Mk{b:List PV}{k:List PV->Prop}:Mj (.tup b) k=k b:=rfl
theorem tU{b:List PV}:v8 (.tup b)=ag:=rfl
theorem oF{ps:List PV}:nC ρ [] ps=ρ:=rfl
theorem oE{is:List Nat}{p:PV}{ps:List PV}:nC ρ (i::is) (p::ps)=nC (aR ρ i p) is ps:=rfl
def bd(X:Fx)(n:Nat)(ss:iz)(ρ:aJ)(H:HP)(Q:Fl->aJ->HP->Prop):Prop:=jU X n ss ρ H Q
theorem aD{ss:iz}{Q:Fl->aJ->HP->Prop}(h:jU X n ss ρ H Q):bd X n ss ρ H Q:=h
theorem be{Q:Fl->aJ->HP->Prop}:bd X n .nil ρ H Q=Q .next ρ H:=rfl
theorem aE{s:PS}{r:iz}{Q:Fl->aJ->HP->Prop}:jU X n (.cons s r) ρ H Q=wpS X n s ρ H λfl aU H'=>match fl with|.next=>bd X n r aU H' Q|.ret p=>Q (.ret p) aU H':=rfl
theorem fq{e:PE}{Q:Fl->aJ->HP->Prop}:wpS X n (.expr e) ρ H Q=aX X n e aq ρ H λp H'=>notRef p=ag/\Q .next ρ H':=rfl
theorem cf{e:PE}{Q:Fl->aJ->HP->Prop}:wpS X n (.ret e) ρ H Q=aX X n e aq ρ H λp H'=>Q (.ret p) ρ H':=rfl
theorem w_ite{c:PE}{a b:iz}{Q:Fl->aJ->HP->Prop}:wpS X n (.ite c a b) ρ H Q=aX X n c ag ρ H λp H'=>Mf p λt=>if t=ag then bd X n a ρ H' Q else bd X n b ρ H' Q:=rfl
theorem wQ{c:PE}{b:iz}{Q:Fl->aJ->HP->Prop}:wpS X n (.oL c b) ρ H Q= ∃I:Nat->aJ->HP->Prop,(∃k,I k ρ H)/\∀k ρ H,I k ρ H->aX X n c ag ρ H λp H'=>match p with
 |.bool t=>if t=ag then bd X n b ρ H' (λfl aU me=>match fl with
    |.next=>∃m,m<k/\I m aU me
    |.ret p=>Q (.ret p) aU me)else Q .next ρ H'
 |_=>False:=rfl
theorem jr{t:PT}{b:iz}{Q:Fl->aJ->HP->Prop}:wpS X n (.for t it b) ρ H Q=aX X n it aq ρ H λp H1=>ok (itemsOf H1 p) λxs=>forR (oM X n t) (bd X n b) (λH'=>cD H1 H' p) xs ρ H1 Q:=rfl
theorem agk{b:iz}{Q:Fl->aJ->HP->Prop}:wpS X n (.vg i it b) ρ H Q=aX X n it aq ρ H λp H1=>match p with
 |.ak l=>match H1.get l with
  |some (.aH xs)=>∀o,forR (λx ρ H QA=>QA (aR ρ i x) H) (bd X n b) (λH'=>H'.get l=ae (.fB o xs)) (xs.map λx=>x.1.pv) ρ (H1.set (.fB o xs) l)
    (λfl aU H'=>match fl with
      |.next=>H'.get l=ae (.fB o xs)/\Q .next aU (H'.set (.aH xs) l)
      |.ret _=>False)
  |_=>False
 |_=>False:=rfl
theorem bE{t:PT}{e:PE}{Q:Fl->aJ->HP->Prop}:wpS X n (.asg t e) ρ H Q=aX X n e aq ρ H λp H1=>oM X n t p ρ H1 λaU H'=>Q .next aU H':=rfl
theorem Nz{is:List Nat}{e:PE}{Q:Fl->aJ->HP->Prop}:wpS X n (.tV is e) ρ H Q=aX X n e aq ρ H λp H1=>Mj p λps=>is.length=ps.length/\Q .next (nC ρ is.reverse ps.reverse) H1:=rfl
theorem Aq{e:PE}{Q:Fl->aJ->HP->Prop}:wpS X n (.pC iy e) ρ H Q=aX X n e aq ρ H λp H'=>Q .next (aR ρ iy p) H':=rfl
theorem fx:eb ai xs H Q=(xs.length<=aI/\Q (.lst xs) H):=rfl
theorem jP{f:dn}:eb (ae f) xs H Q=(xs.length<=aI/\Q (.ak (H.next f)) (H.push (.list xs) f)):=rfl
theorem gz{α:Type}{x d:α}{xs:List α}:FS (x::xs) 0 d=x:=rfl
theorem gs{α:Type}{x d:α}{xs:List α}:FS (x::xs) (k+1) d=FS xs k d:=rfl
theorem ju{t:Bool}:aX X n (.none) t ρ H Q=(tq t Q .none H):=rfl
theorem lu{b:Bool}{t:Bool}:aX X n (.bool b) t ρ H Q=(tq t Q (.bool b) H):=rfl
theorem cT{i:Int}{t:Bool}:aX X n (.int i) t ρ H Q=(tq t Q (.int i) H):=rfl
theorem fZ{s:Str}{t:Bool}:aX X n (.str s) t ρ H Q=(tq t Q (.str s) H):=rfl
theorem aG{t:Bool}:aX X n (.var i) t ρ H Q=(ok (ρ.getD i ai) λp=>tq t Q p H):=rfl
theorem ch{o:PE}{a:At}{t:Bool}:aX X n (.attr o a) t ρ H Q=(aX X n o aq ρ H λp H'=>fP p a H' (tq t Q)):=rfl
theorem eP{op:oV}{l:PE}{r:PE}{t:Bool}:aX X n (.bin op aY l r) t ρ H Q=(aX X n l aq ρ H λp H1=>aX X n r aq ρ H1 λq H2=>iY op aY p q H2 (tq t Q)):=rfl
theorem cc{op:lA}{l:PE}{r:PE}{t:Bool}:aX X n (.cmp op l r) t ρ H Q=(aX X n l aq ρ H λp H1=>aX X n r aq ρ H1 λq H2=>cK op p q H2 λb=>Q (.bool b) H2):=rfl
theorem NM{op:lA}{iJ:lA}{l:PE}{m:PE}{r:PE}{t:Bool}:aX X n (.rj op iJ l m r) t ρ H Q=(t=ag/\aX X n l aq ρ H λp H1=>aX X n m aq ρ H1 λq H2=>cK op p q H2 λb=>if b=ag then aX X n r aq ρ H2 λz H3=>cK iJ q z H3 λb2=>Q (.bool b2) H3 else Q (.bool aq) H2):=rfl
theorem t8{e:PE}{t:Bool}:aX X n (.not e) t ρ H Q=(t=ag/\aX X n e ag ρ H λp H'=>match p with
 |.bool b=>Q (.bool (!b)) H'
 |_=>False):=rfl
theorem kD{op:BoolOp}{es:d9}{t:Bool}:aX X n (.gE op es) t ρ H Q=(lr X n op es t ρ H Q):=rfl
theorem mL{c:PE}{a:PE}{b:PE}{t:Bool}:aX X n (.ite c a b) t ρ H Q=(t=aq/\aX X n c ag ρ H λp H'=>match p with
 |.bool b'=>if b'=ag then aX X n a aq ρ H' Q else aX X n b aq ρ H' Q
 |_=>False):=rfl
theorem dM{o:PE}{i:PE}{t:Bool}:aX X n (.idx o i) t ρ H Q=(aX X n o aq ρ H λp H1=>aX X n i aq ρ H1 λq H2=>eV p q H2 (tq t Q)):=rfl
theorem nI{o:PE}{t:Bool}:aX X n (.jp o lo hi aY) t ρ H Q=(aX X n o aq ρ H λp H1=>qe p lo hi aY H1 (tq t Q)):=rfl
theorem eQ{es:d9}{t:Bool}:aX X n (.tup es) t ρ H Q=(iu X n es ρ H λps H'=>ps.length<=aI/\tq t Q (.tup ps) H'):=rfl
theorem fr{es:d9}{t:Bool}:aX X n (.lst aY es) t ρ H Q=(iu X n es ρ H λps H'=>eb aY ps H' (tq t Q)):=rfl
theorem x_call{f:Fn}{es:d9}{t:Bool}:aX X n (.call f es) t ρ H Q=(iu X n es ρ H λps H'=>bC X n f ps H' (tq t Q)):=rfl
theorem de{o:PE}{f:Fn}{es:d9}{t:Bool}:aX X n (.cx o f es) t ρ H Q=(aX X n o aq ρ H λp H1=>nu p f H1/\iu X n es ρ H1 λps H'=>bC X n f (p::ps) H' (tq t Q)):=rfl
theorem wS{C:Cl}{es:d9}{t:Bool}:aX X n (.new C f1 f2 es) t ρ H Q=(iu X n es ρ H λps H'=>zW X n C f1 f2 ps H' (tq t Q)):=rfl
theorem cM{b:BI}{es:d9}{t:Bool}:aX X n (.bi b aY es) t ρ H Q=(iu X n es ρ H λps H'=>fQ X n b aY ps H' (tq t Q)):=rfl
theorem fD{m:LM}{o:PE}{es:d9}{t:Bool}:aX X n (.lm m o es) t ρ H Q=(aX X n o aq ρ H λp H1=>oG m p H1/\iu X n es ρ H1 λps H'=>io m p ps H' (tq t Q)):=rfl
theorem Fy{e:PE}{t:Bool}:aX X n (.r8 aY e) t ρ H Q=(aX X n e aq ρ H λp H'=>qT X n p H' (tq t Q)):=rfl
theorem Fw{e:PE}{t:Bool}:aX X n (.vh x e) t ρ H Q=(x.length<=aI/\aX X n e aq ρ H λp H'=>Ml p λi=>(i.natAbs<1000000000/\(x++(toString i:String)).length<=aI)/\tq t Q (.str (x++(toString i:String))) H'):=rfl
theorem mK{T:Bool}{f:dn}{t:Bool}:aX X n (.kf T f) t ρ H Q=(tq t Q (.ak (H.next f)) (H.push (if T=ag then .bL []else .aH []) f)):=rfl
theorem agA{x2:Str}{f:dn}{v1:PE}{v2:PE}{t:Bool}:aX X n (.vb x1 x2 f v1 v2) t ρ H Q=(aX X n v1 aq ρ H λp1 H1=>aX X n v2 aq ρ H1 λp2 H2=>tq t Q (.ak (H2.next f)) (H2.push (.aH [(.x x1,p1),(.x x2,p2)]) f)):=rfl
theorem gM{cs:d9}{elt:PE}{t:Bool}:aX X n (.comp aY i it cs elt) t ρ H Q=(ρ.getD i ai=ai/\aX X n it aq ρ H λp H1=>ok (itemsOf H1 p) λxs=>
 cw i (As X n cs) (fh λρ H Q=>aX X n elt aq ρ H Q) (λH'=>cD H1 H' p) xs ρ (.list []) H1 λU acc H'=>ku aY acc H' (tq t Q)):=rfl
theorem agy{elt:PE}{t:Bool}:aX X n (.n3 aY i it j dE elt) t ρ H Q=((ρ.getD i ai=ai/\ρ.getD j ai=ai)/\aX X n it aq ρ H λp H1=>ok (itemsOf H1 p) λxs=>
 cw i (λU H QB=>QB ag H) (λρ acc H Q=>aX X n dE aq ρ H λp H1=>ok (itemsOf H1 p) λxs=>
  cw j (λU H QB=>QB ag H) (fh λρ H Q=>aX X n elt aq ρ H Q) (λH'=>cD H1 H' p) xs ρ acc H1 Q)
  (λH'=>cD H1 H' p) xs ρ (.list []) H1 λU acc H'=>ku aY acc H' (tq t Q)):=rfl
theorem agz{f:dn}{k:PE}{v:PE}{t:Bool}:aX X n (.n5 f i it k v) t ρ H Q=(ρ.getD i ai=ai/\aX X n it aq ρ H λp H1=>ok (itemsOf H1 p) λxs=>
 cw i (λU H QB=>QB ag H) (jN (λρ H Q=>aX X n k aq ρ H Q) (λρ H Q=>aX X n v aq ρ H Q)) (λH'=>cD H1 H' p) xs ρ (.aH []) H1 λU acc H'=>ku (ae f) acc H' (tq t Q)):=rfl
theorem aT{Q:List PV->HP->Prop}:iu X n .nil ρ H Q=Q [] H:=rfl
theorem a0{e:PE}{es:d9}{Q:List PV->HP->Prop}:iu X n (.cons e es) ρ H Q=(aX X n e aq ρ H λp H1=>iu X n es ρ H1 λps H2=>Q (p::ps) H2):=rfl
theorem lZ{op:BoolOp}{t:Bool}:lr X n op .nil t ρ H Q=(t=ag/\Q (.bool (op==.And)) H):=rfl
theorem l0{op:BoolOp}{e:PE}{es:d9}:lr X n op (.cons e es) ag ρ H Q=(aX X n e ag ρ H λp H1=>match p with
 |.bool b=>if b=(op==.And)then lr X n op es ag ρ H1 Q else Q (.bool b) H1
 |_=>False):=rfl
theorem NN{op:BoolOp}{e:PE}:lr X n op (.cons e .nil) aq ρ H Q=aX X n e aq ρ H Q:=rfl
theorem NO{op:BoolOp}{e e2:PE}{es:d9}:lr X n op (.cons e (.cons e2 es)) aq ρ H Q=(aX X n e aq ρ H λp H1=>match p with
        |.bool b=>if b=(op==.And)then lr X n op (.cons e2 es) aq ρ H1 Q else Q (.bool b) H1
        |_=>False):=rfl
theorem qt{c:PE}:As X n (.cons c .nil) ρ H QB=(aX X n c ag ρ H λp H'=>match p with
 |.bool b=>QB b H'
 |_=>False):=rfl
theorem bZ{p:PV}{Q:aJ->HP->Prop}:oM X n (.name i) p ρ H Q=Q (aR ρ i p) H:=rfl
theorem fY{o:PE}{a:At}{p:PV}{Q:aJ->HP->Prop}:oM X n (.attr o a) p ρ H Q=aX X n o aq ρ H λpo H1=>oH po a p H1 λH2=>Q ρ H2:=rfl
theorem nE{o i:PE}{p:PV}{Q:aJ->HP->Prop}:oM X n (.item o i) p ρ H Q=aX X n o aq ρ H λpo H1=>aX X n i aq ρ H1 λq H2=>jo po q p H2 λH3=>Q ρ H3:=rfl
theorem r9{is:List Nat}{p:PV}{Q:aJ->HP->Prop}:oM X n (.tup is) p ρ H Q=(v8 p=ag/\ok (itemsOf H p) λxs=>is.length=xs.length/\Q (nC ρ is xs) H):=rfl
theorem eu(O:cj X){f:Fn}{M:cl}(hc:pK X.K f M=ag)(hl:args.length=M.as.length)
 (h:∀Qz:PV->HP->Prop,(∀p H',Q p H'->Qz p H')->bd X n M.ps (ce args M.k) H λfl U H'=>Qz (match fl with|.next=> .none|.ret p=>p) H'):bC X (n+1) f args H Q:=
 Jv O hc hl (h Q λU U x=>x)
theorem jf(O:cj X){f:Fn}{M:cl}(hc:pK X.K f M=ag)(hl:args.length=M.as.length)
 (h:bd X n M.ps (ce args M.k) H λfl U H'=>Q (match fl with|.next=> .none|.ret p=>p) H'):bC X (n+1) f args H Q:=Jv O hc hl h
theorem bC.dt{f:Fn}{b:HP}{a:PV}(h:bC X n f args H (λp H'=>p=a/\H'=b))(q:Q a b):bC X n f args H Q:=
 h.mono λp H' x=>by(refine aK x ?_;clear x;rintro rfl rfl);exact q
end
end
section
set_option genSizeOf false
set_option genSizeOfSpec false
set_option genInjectivity false
theorem EL{x y g:Nat}(h:x≠y)(ek:k=min x y)(eg:g=max x y):k<g/\((k=x/\g=y)\/(k=y/\g=x)):=by
 rcases gN h with l|l
 ·exact⟨by(refine aa (ek ..) ?_;refine aa (eg ..) ?_;refine aa (xf (jy l) ..) ?_;refine aa (AR (jy l) ..) ?_);exact l,.inl ⟨ek.trans (xf (jy l)),eg.trans (AR (jy l))⟩⟩
 ·exact⟨by(refine aa (ek ..) ?_;refine aa (eg ..) ?_;refine aa (xh (jy l) ..) ?_;refine aa (AQ (jy l) ..) ?_);exact l,.inr ⟨ek.trans (xh (jy l)),eg.trans (AQ (jy l))⟩⟩
theorem Lb{x y g:Nat}(h:(k=x/\g=y)\/(k=y/\g=x))(n:k<g):(if x=g then k else x)=if y=g then k else y:=by
 rcases h with⟨rfl,rfl⟩|⟨rfl,rfl⟩
 ·(refine aa (if_neg (dN n) ..) ?_;refine aa (if_pos rfl ..) ?_;rfl)
 ·(refine aa (if_pos rfl ..) ?_;refine aa (if_neg (dN n) ..) ?_;rfl)
theorem ab2{x y g:Nat}(h:(k=x/\g=y)\/(k=y/\g=x))(hx:x<z)(hy:y<z):k<z/\g<z:=by
 rcases h with⟨rfl,rfl⟩|⟨rfl,rfl⟩
 ·exact⟨hx,hy⟩
 ·exact⟨hy,hx⟩
noncomputable def nat(k:Nat):PV:=.int (k:Int)
noncomputable def nats(l:List Nat):List PV:=l.map nat
noncomputable def cL(l:List Int):List PV:=l.map PV.int
noncomputable def bk(nd:Str×List Nat):PV:=.tup (.str nd.1::nats nd.2)
noncomputable def fm(nd:Str×List Nat):List Atom:=.x nd.1::nd.2.map λ(k:Nat)=>Atom.i (k:Int)
structure St where
 ops:List (Str×List Nat)
 dd:List Int
 db:List Int
 up:List Nat
 bx:List (List Nat)
 merged:List PV
 dc:List PV
 dO:List PV
 known:List ((Str×List Nat)×Nat)
 ab:List (Nat×Nat)
 al:List (List Nat)
 wait:List Nat
noncomputable def iq(ops:List (Str×List Nat)):List (List Atom×PV):=(bw ops.length).map λi=>(fm (ops.getD i default),nat i)
noncomputable def gW(k:List ((Str×List Nat)×Nat)):List (List Atom×PV):=k.map λx=>(fm x.1,nat x.2)
noncomputable def kN(ab:List (Nat×Nat)):List (Atom×PV):=ab.map λx=>(.i (x.1:Int),.ak (.a x.2))
noncomputable def sH(fd:aF)(os:List PV)(nm:List (List Atom×PV))(ws ds up ls mg ed fo:List PV)(kn:List (List Atom×PV))(ab:List (Atom×PV))(wt:List PV)(tl:List aF):List aF:=
 fd::.attrs [(.gC,.ak (.s 4)),(.gu,.ak (.s 10)),(.dc,.ak (.s 14)),(.dO,.ak (.s 15)),(.known,.ak (.s 16)),(.above,.ak (.s 17)),(.waiting,.ak (.s 18))]::.inst .Heap (.s 1)::
  .attrs [(.nodes,.ak (.s 5)),(.jQ,.ak (.s 6)),(.lX,.ak (.s 7)),(.nb,.ak (.s 8))]::.inst .jD (.s 3)::.list os::.bL nm::.list ws::.list ds::
  .attrs [(.above,.ak (.s 11)),(.bx,.ak (.s 12)),(.merged,.ak (.s 13))]::.inst .j8 (.s 9)::.list up::.list ls::.list mg::
  .list ed::.list fo::.bL kn::.aH ab::.list wt::tl
noncomputable def av(fd:aF)(σ:St)(tl v t:List aF):HP where
 s:=sH fd (σ.ops.map bk) (iq σ.ops) (cL σ.dd) (cL σ.db) (nats σ.up) ((bw σ.bx.length).map λk=> .ak (.l k)) σ.merged σ.dc σ.dO (gW σ.known) (kN σ.ab) (nats σ.wait) tl
 l:=σ.bx.map λxs=> .list (nats xs)
 a:=σ.al.map λxs=> .list (nats xs)
 v:=v
 t:=t
theorem kY{s s' l l' a a' v v' t':List aF}(h1:s=s')(h2:l=l')(h3:a=a')(h4:v=v')(h5:t=t'):HP.mk s l a v t=HP.mk s' l' a' v' t':=by(refine aa (h1 ..) ?_;refine aa (h2 ..) ?_;refine aa (h3 ..) ?_;refine aa (h4 ..) ?_;refine aa (h5 ..) ?_;rfl)
section
variable{σ:St}{v:List aF}
noncomputable abbrev hU:PV:=.ak (.s 10)
noncomputable abbrev hB:PV:=.ak (.s 4)
noncomputable abbrev hH:PV:=.ak (.s 2)
@[simp] theorem nZ:fP (.ak (.s 10)) .above (av fd σ tl v t) Q=Q (.ak (.s 11)) (av fd σ tl v t):=rfl
@[simp] theorem yp:fP (.ak (.s 10)) .bx (av fd σ tl v t) Q=Q (.ak (.s 12)) (av fd σ tl v t):=rfl
@[simp] theorem VZ:fP (.ak (.s 10)) .merged (av fd σ tl v t) Q=Q (.ak (.s 13)) (av fd σ tl v t):=rfl
@[simp] theorem uW:fP (.ak (.s 4)) .nodes (av fd σ tl v t) Q=Q (.ak (.s 5)) (av fd σ tl v t):=rfl
@[simp] theorem Cf:fP (.ak (.s 4)) .jQ (av fd σ tl v t) Q=Q (.ak (.s 6)) (av fd σ tl v t):=rfl
@[simp] theorem Iz:fP (.ak (.s 4)) .lX (av fd σ tl v t) Q=Q (.ak (.s 7)) (av fd σ tl v t):=rfl
@[simp] theorem Iy:fP (.ak (.s 4)) .nb (av fd σ tl v t) Q=Q (.ak (.s 8)) (av fd σ tl v t):=rfl
@[simp] theorem Cg:fP (.ak (.s 2)) .gC (av fd σ tl v t) Q=Q (.ak (.s 4)) (av fd σ tl v t):=rfl
@[simp] theorem rg:fP (.ak (.s 2)) .gu (av fd σ tl v t) Q=Q (.ak (.s 10)) (av fd σ tl v t):=rfl
@[simp] theorem IA:fP (.ak (.s 2)) .dc (av fd σ tl v t) Q=Q (.ak (.s 14)) (av fd σ tl v t):=rfl
@[simp] theorem VX:fP (.ak (.s 2)) .dO (av fd σ tl v t) Q=Q (.ak (.s 15)) (av fd σ tl v t):=rfl
@[simp] theorem VY:fP (.ak (.s 2)) .known (av fd σ tl v t) Q=Q (.ak (.s 16)) (av fd σ tl v t):=rfl
@[simp] theorem sU:fP (.ak (.s 2)) .above (av fd σ tl v t) Q=Q (.ak (.s 17)) (av fd σ tl v t):=rfl
@[simp] theorem Ch:fP (.ak (.s 2)) .waiting (av fd σ tl v t) Q=Q (.ak (.s 18)) (av fd σ tl v t):=rfl
@[simp] theorem vn:(av fd σ tl v t).get (.s 5)=ae (.list (σ.ops.map bk)):=rfl
@[simp] theorem CU:(av fd σ tl v t).get (.s 6)=ae (.bL (iq σ.ops)):=rfl
@[simp] theorem CV:(av fd σ tl v t).get (.s 7)=ae (.list (cL σ.dd)):=rfl
@[simp] theorem CW:(av fd σ tl v t).get (.s 8)=ae (.list (cL σ.db)):=rfl
@[simp] theorem nh:(av fd σ tl v t).get (.s 11)=ae (.list (nats σ.up)):=rfl
@[simp] theorem vk:(av fd σ tl v t).get (.s 12)=ae (.list ((bw σ.bx.length).map λk=> .ak (.l k))):=rfl
@[simp] theorem JJ:(av fd σ tl v t).get (.s 13)=ae (.list σ.merged):=rfl
@[simp] theorem CT:(av fd σ tl v t).get (.s 14)=ae (.list σ.dc):=rfl
@[simp] theorem JK:(av fd σ tl v t).get (.s 15)=ae (.list σ.dO):=rfl
@[simp] theorem JL:(av fd σ tl v t).get (.s 16)=ae (.bL (gW σ.known)):=rfl
@[simp] theorem yT:(av fd σ tl v t).get (.s 17)=ae (.aH (kN σ.ab)):=rfl
@[simp] theorem vl:(av fd σ tl v t).get (.s 18)=ae (.list (nats σ.wait)):=rfl
@[simp] theorem YT:(av fd σ tl v t).get (.l k)=(σ.bx[k]?).map λxs=> .list (nats xs):=dB
theorem nv{f:Fn}(h:f.cls=ae .j8):nu (.ak (.s 10)) f (av fd σ tl v t):=⟨h,trivial⟩
theorem zR{f:Fn}(h:f.cls=ae .jD):nu (.ak (.s 4)) f (av fd σ tl v t):=⟨h,trivial⟩
theorem fX{f:Fn}(h:f.cls=ae .Heap):nu (.ak (.s 2)) f (av fd σ tl v t):=⟨h,trivial⟩
noncomputable def LZ:Fn->cl
 |.sd=>EG
 |.mF=>Er
 |.joined=>Eb
 |.jM=>wh
 |.value=>EF
 |.begun=>D2
 |.p9=>Eu
 |.oo=>Ed
 |.rI=>D8
 |.kP=>D1
 |.uX=>acT
 |.take=>Ex
 |.qb=>Ev
 |.op=>Es
 |.kids=>Ee
 |.lp=>EA
 |.make=>Ei
 |.qn=>ED
 |.mH=>Ez
 |.qm=>EC
 |.ql=>EB
 |.qk=>Ey
 |.kQ=>D6
 |.node=>Eo
 |.add=>DZ
 |.oq=>Eg
 |.find=>m_find
 |.merge=>El
 |.join=>Ea
 |.settle=>Ew
 |.classes=>D3
 |.members=>Ek
 |.pY=>Ep
 |.qp=>EE
 |.pV=>Ef
 |.draw=>D5
 |.names=>Em
 |.over=>Et
 |.marks=>Ej
 |.bx=>Eh
 |.rR=>En
 |.rJ=>D9
 |.added=>D0
 |.rk=>D4
 |.rH=>D7
 |_=>zN
structure Ok(X:Fx):Prop where
 O:cj X
 ck:∀f,f≠.mA->pK X.K f (LZ f)=ag
end
mutual
noncomputable def PV.clean:PV->Bool
 |.none|.int _=>ag
 |.str s=>PV.plain (.str s)
 |.tup ps=>PV.m3 ps
 |.lst ps=>PV.m3 ps
 |_=>aq
noncomputable def PV.m3:List PV->Bool
 |[]=>ag
 |p::ps=>PV.clean p&&PV.m3 ps
end
mutual
theorem PV.E1:∀p:PV,p.clean=ag->p.plain=ag
 |.none,_=>rfl
 |.int _,_=>rfl
 |.str _,h=>h
 |.tup ps,h=>PV.E2 ps h
 |.lst ps,h=>PV.E2 ps h
 |.bool _,h=>ff h
 |.eh _,h=>ff h
 |.ak _,h=>ff h
theorem PV.E2:∀ps:List PV,PV.m3 ps=ag->PV.p8 ps=ag
 |[],_=>rfl
 |p::ps,h=>bb (PV.E1 p (bl h)) (PV.E2 ps (br h))
end
mutual
theorem PV.Jo:∀p q:PV,p.clean=ag->q.clean=ag->p.eqv q=ag->p=q
 |.none,q,_,hq,h=>by cases q<;>first|rfl|exact ff hq|exact ff h
 |.int i,q,_,hq,h=>by cases q<;>first|exact ff hq|exact ff h|exact congrArg PV.int (eq_of_beq h)
 |.str i,q,_,hq,h=>by cases q<;>first|exact ff hq|exact ff h|exact congrArg PV.str (eq_of_beq h)
 |.tup ps,q,hp,hq,h=>by cases q<;>first|exact ff hq|exact ff h|exact congrArg PV.tup (PV.CJ ps _ hp hq h)
 |.lst ps,q,hp,hq,h=>by cases q<;>first|exact ff hq|exact ff h|exact congrArg PV.lst (PV.CJ ps _ hp hq h)
 |.bool _,_,h,_,_=>ff h
 |.eh _,_,h,_,_=>ff h
 |.ak _,_,h,_,_=>ff h
theorem PV.CJ:∀ps qs:List PV,PV.m3 ps=ag->PV.m3 qs=ag->Pe (PV.m8 ps) (PV.m8 qs)=ag->ps=qs
 |[],[],_,_,_=>rfl
 |[],_::_,_,_,h=>ff h
 |_::_,[],_,_,h=>ff h
 |p::ps,q::qs,hp,hq,h=>by(refine aa (PV.Jo p q (bl hp) (bl hq) (bl h) ..) ?_;refine aa (PV.CJ ps qs (br hp) (br hq) (br h) ..) ?_;rfl)
end
mutual
theorem PV.Jp:∀p:PV,p.clean=ag->p.eqv p=ag
 |.none,_=>rfl
 |.int i,_=>beq_self_eq_true i
 |.str i,_=>beq_self_eq_true i
 |.tup ps,h=>PV.CK ps h
 |.lst ps,h=>PV.CK ps h
 |.bool _,h=>ff h
 |.eh _,h=>ff h
 |.ak _,h=>ff h
theorem PV.CK:∀ps:List PV,PV.m3 ps=ag->Pe (PV.m8 ps) (PV.m8 ps)=ag
 |[],_=>rfl
 |p::ps,h=>bb (PV.Jp p (bl h)) (PV.CK ps (br h))
end
theorem PV.iC(p q:PV)(hp:p.clean=ag)(hq:q.clean=ag):p.eqv q=ag↔p=q:=
 ⟨PV.Jo p q hp hq,λe=>e▸PV.Jp p hp⟩
mutual
noncomputable def PV.rm:PV->Nat
 |.tup ps=>PV.m9 ps+1
 |.lst ps=>PV.m9 ps+1
 |_=>0
noncomputable def PV.m9:List PV->Nat
 |[]=>0
 |p::ps=>max (PV.rm p) (PV.m9 ps)
end
mutual
theorem PV.Cy:∀p:PV,p.data.depth=p.rm
 |.none=>rfl
 |.int _=>rfl
 |.str _=>rfl
 |.bool _=>rfl
 |.eh _=>rfl
 |.ak _=>rfl
 |.tup ps=>congrArg AU (PV.Cz ps)
 |.lst ps=>congrArg AU (PV.Cz ps)
theorem PV.Cz:∀ps:List PV,PyData.depthAll (PV.m8 ps)=PV.m9 ps
 |[]=>rfl
 |p::ps=>congr (congrArg max (PV.Cy p)) (PV.Cz ps)
end
theorem jd{p:PV}(hp:p.clean=ag)(hq:q.clean=ag)(hd:p.rm<=60\/q.rm<=60):p.jc q:=
 ⟨PV.E1 p hp,PV.E1 q hq,by(rewrite[PV.Cy];rewrite[PV.Cy]);exact P4 hd⟩
theorem yz:∀l:List Nat,PV.m3 (nats l)=ag:=by
 intro l;induction l with
 |nil=>
  exact rfl
 |cons k l ih=>
  show(ag&&PV.m3 (nats l))=ag;refine aa (ih ..) ?_;rfl
theorem CA:∀l:List Nat,PV.m9 (nats l)=0:=by
 intro l;induction l with
 |nil=>
  exact rfl
 |cons k l ih=>
  show max 0 (PV.m9 (nats l))=0;refine aa (ih ..) ?_;rfl
theorem zT:nat a=nat b↔a=b:=⟨λh=>by injection h with h;exact FK h,λh=>by(refine aa (h ..) ?_;rfl)⟩
theorem EP:∀{a b:List Nat},nats a=nats b↔a=b
 |[],[]=>⟨λU=>rfl,λU=>rfl⟩
 |[],_::_=>⟨nofun,nofun⟩
 |_::_,[]=>⟨nofun,nofun⟩
 |a::as,b::bs=>⟨λh=>by
   have h1:nat a::nats as=nat b::nats bs:=h;injection h1 with h1 h2
   (refine aa (zT.mp h1 ..) ?_;refine aa (EP.mp h2 ..) ?_;rfl),λh=>by(refine aa (h ..) ?_;rfl)⟩
section
variable{k:Bool->Prop}{X:Fx}{n:Nat}
@[simp] theorem K6(k:Nat):PV.int (k:Int)=nat k:=rfl
theorem vY:PV.int 0=nat 0:=rfl
theorem on:PV.int 1=nat 1:=rfl
theorem Jn:(nat a).eqv (nat b)=decide (a=b):=by
 by_cases e:a=b
 ·refine aa (decide_eq_true e ..) ?_;exact(PV.iC _ _ rfl rfl).mpr (zT.mpr e)
 ·refine aa (decide_eq_false e ..) ?_
  cases h:(nat a).eqv (nat b)with
  |false=>rfl
  |true=>exact absurd (zT.mp ((PV.iC _ _ rfl rfl).mp h)) e
@[simp] theorem m4:cK .Eq (nat a) (nat b) H k=k (decide (a=b)):=by
  refine aQ (Jn ..) ?_;exact propext ⟨λx=>x.2,λx=>⟨jd rfl rfl (.inl (cJ _)),x⟩⟩
@[simp] theorem yA:cK .NotEq (nat a) (nat b) H k=k (!decide (a=b)):=by
  refine aQ (Jn ..) ?_;exact propext ⟨λx=>x.2,λx=>⟨jd rfl rfl (.inl (cJ _)),x⟩⟩
@[simp] theorem s0:cK .Lt (nat a) (nat b) H k=k (decide (a<b)):=congrArg k (decide_eq_decide.mpr lw)
@[simp] theorem W8:cK .LtE (nat a) (nat b) H k=k (decide (a<=b)):=congrArg k (decide_eq_decide.mpr ue)
@[simp] theorem IY:cK .Gt (nat a) (nat b) H k=k (decide (b<a)):=congrArg k (decide_eq_decide.mpr lw)
@[simp] theorem sX:iY .Add aY (nat a) (nat b) H Q=Q (nat (a+b)) H:=rfl
theorem yw(h:b<=a):iY .Sub aY (nat a) (nat b) H Q=Q (nat (a - b)) H:=congrArg (λz=>Q (.int z) H) (P5 h)
theorem idx_int{i:Int}(h:H.get l=ae (.list xs)):eV (.ak l) (.int i) H Q=((0<=i/\i<2^60)/\ok (xs[i.toNat]?) λr=>Q r H):=by
 refine(?_:ox (H.get l) (λxs=>(0<=i/\i<2^60)/\ok (xs[i.toNat]?) λr=>Q r H) _ _=_);refine aa (h ..) ?_;rfl
theorem Me{α:Type}{o:Option α}{a:α}{f:α->Prop}{P:Prop}(p:P)(e:o=ae a):(P/\ok o f)=f a:=by
 refine aa (e ..) ?_;exact propext ⟨λx=>x.2,λx=>⟨p,x⟩⟩
theorem nq{x:PV}(h:H.get l=ae (.list xs))(hk:xs[i]? =ae x)(hz:i<=aI):eV (.ak l) (nat i) H Q=Q x H:=(idx_int h).trans (Me (G3 hz rfl) hk)
theorem zx{ys:List Nat}(h:H.get l=ae (.list (nats ys)))(hk:i<ys.length)(hz:ys.length<=aI):eV (.ak l) (nat i) H Q=Q (nat (ys.getD i 0)) H:=
 nq h (map_getD hk) (dC (jy hk) hz)
theorem abt{x:PV}(hk:xs[i]? =ae x)(hz:i<=aI):eV (.tup xs) (nat i) H Q=Q x H:=Me (G3 hz rfl) hk
theorem rO(e:H.get l=ae (.list xs)):listOf H (.ak l)=ae xs:=by
 refine(?_:(match H.get l with|some (.list ps)=>ae ps|_=>ai)=ae xs);refine aa (e ..) ?_;rfl
theorem jO(e:H.get l=ae (.list xs)):fQ X n .len aY [.ak l] H Q=(xs.length<=aI/\Q (nat xs.length) H):=by
 refine(?_:ok (listOf H (.ak l)) (λxs=>xs.length<=aI/\Q (.int xs.length) H)=_);refine aa (rO e ..) ?_;rfl
theorem DH{xs:List (Atom×PV)}(h:H.get l=ae (.aH xs)):eV (.ak l) q H Q=ok (fO q) λk=>ok (bc xs k) λr=>Q r H:=by
 refine(?_:ox (H.get l) _ (λxs=>ok (fO q) λk=>ok (bc xs k) λr=>Q r H) _=_);refine aa (h ..) ?_;rfl
theorem abo{xs:List (List Atom×PV)}(h:H.get l=ae (.bL xs)):eV (.ak l) q H Q=ok (keyOf q) λk=>ok (bc xs k) λr=>Q r H:=by
 refine(?_:ox (H.get l) _ _ (λxs=>ok (keyOf q) λk=>ok (bc xs k) λr=>Q r H)=_);refine aa (h ..) ?_;rfl
theorem E9{xs:List (Atom×PV)}{v:PV}{K:HP->Prop}(h:H.get l=ae (.aH xs)):jo (.ak l) q v H K=ok (fO q) λkey=>xs.length<aI/\K (H.set (.aH (dput xs key v)) l):=by
 refine(?_:ox (H.get l) _ (λxs=>ok (fO q) λkey=>xs.length<aI/\K (H.set (.aH (dput xs key v)) l)) _=_);refine aa (h ..) ?_;rfl
theorem aeR{xs:List (List Atom×PV)}{v:PV}{K:HP->Prop}(h:H.get l=ae (.bL xs)):jo (.ak l) q v H K=ok (keyOf q) λkey=>xs.length<aI/\K (H.set (.bL (dput xs key v)) l):=by
 refine(?_:ox (H.get l) _ _ (λxs=>ok (keyOf q) λkey=>xs.length<aI/\K (H.set (.bL (dput xs key v)) l))=_);refine aa (h ..) ?_;rfl
theorem set_list{i:Int}{v:PV}{K:HP->Prop}(h:H.get l=ae (.list xs)):jo (.ak l) (.int i) v H K=((0<=i/\i.toNat<xs.length)/\K (H.set (.list (xs.set i.toNat v)) l)):=by
 refine(?_:ox (H.get l) (λxs=>(0<=i/\i.toNat<xs.length)/\K (H.set (.list (xs.set i.toNat v)) l)) _ _=_);refine aa (h ..) ?_;rfl
theorem abx{xs:List (Atom×PV)}{p:PV}(h:H.get l=ae (.aH xs)):inR p (.ak l) H k=ok (fO p) λa=>k (bc xs a).isSome:=by
 refine(?_:wy (H.get l) (λxs=>ok (fO p) λa=>k (bc xs a).isSome) _=_);refine aa (h ..) ?_;rfl
theorem aby{xs:List (List Atom×PV)}{p:PV}(h:H.get l=ae (.bL xs)):inR p (.ak l) H k=ok (keyOf p) λa=>k (bc xs a).isSome:=by
 refine(?_:wy (H.get l) _ (λxs=>ok (keyOf p) λa=>k (bc xs a).isSome)=_);refine aa (h ..) ?_;rfl
theorem Cv{p:PV}:cK .In p q H k=inR p q H k:=rfl
theorem I0{p:PV}:cK .NotIn p q H k=inR p q H λb=>k (!b):=rfl
theorem acz{xs:List (Atom×PV)}(h:H.get l=ae (.aH xs)):io .get (.ak l) [q] H Q=ok (fO q) λk=>Q ((bc xs k).getD .none) H:=by
 refine(?_:(match H.get l with|some (.aH xs)=>ok (fO q) λk=>Q ((bc xs k).getD .none) H|_=>False)=_);refine aa (h ..) ?_;rfl
theorem acv{xs:List (Atom×PV)}(h:H.get l=ae (.aH xs)):io .jI (.ak l) [q] H Q=ok (fO q) λk=>ok (bc xs k) λp=>Q p (H.set (.aH (fg xs k)) l):=by
 refine(?_:(match H.get l with|some (.aH xs)=>ok (fO q) λk=>ok (bc xs k) λp=>Q p (H.set (.aH (fg xs k)) l)|_=>False)=_);refine aa (h ..) ?_;rfl
theorem LH{xs:List (List Atom×PV)}{p:PV}(h:H.get l=ae (.bL xs)):io .li (.ak l) [q,p] H Q=ok (keyOf q) λk=>xs.length<aI/\match bc xs k with
        |some z=>Q z H
        |none=>Q p (H.set (.bL (dput xs k p)) l):=by
 show(match H.get l with|some (.bL xs)=>ok (keyOf q) λk=>xs.length<aI/\(match bc xs k with
      |some z=>Q z H
      |none=>Q p (H.set (.bL (dput xs k p)) l))|_=>False)=_
 refine aa (h ..) ?_;rfl
theorem IB:fO (nat a)=ae (.i (a:Int)):=rfl
theorem zw{xs:List (Atom×PV)}(h:H.get l=ae (.aH xs)):eV (.ak l) (nat a) H Q=ok (bc xs (.i (a:Int))) λr=>Q r H:=DH h
theorem wG{xs:List (Atom×PV)}{v:PV}{K:HP->Prop}(h:H.get l=ae (.aH xs)):jo (.ak l) (nat a) v H K=(xs.length<aI/\K (H.set (.aH (dput xs (.i (a:Int)) v)) l)):=E9 h
theorem acA{xs:List (Atom×PV)}(h:H.get l=ae (.aH xs)):io .get (.ak l) [nat a] H Q=Q ((bc xs (.i (a:Int))).getD .none) H:=acz h
theorem LG{xs:List (Atom×PV)}(h:H.get l=ae (.aH xs)):io .jI (.ak l) [nat a] H Q=ok (bc xs (.i (a:Int))) λp=>Q p (H.set (.aH (fg xs (.i (a:Int)))) l):=acv h
theorem tH(e:H.get l=ae (.list xs))(h:xs.length=m):fQ X n .len aY [.ak l] H Q=(m<=aI/\Q (nat m) H):=by refine aQ (h ..) ?_;exact jO e
theorem E6{m:LM}{xs:List (Atom×PV)}(hm:m=.get\/m=.jI)(h:H.get l=ae (.aH xs)):oG m (.ak l) H:=by
 have key:(match H.get l with|some (.aH _)=>True|some (.bL _)=>True|_=>False):=by refine aa (h ..) ?_;trivial
 rcases hm with rfl|rfl<;>exact key
theorem MM{m:LM}{xs:List (List Atom×PV)}(hm:m=.get\/m=.li)(h:H.get l=ae (.bL xs)):oG m (.ak l) H:=by
 have key:(match H.get l with|some (.aH _)=>True|some (.bL _)=>True|_=>False):=by refine aa (h ..) ?_;trivial
 rcases hm with rfl|rfl<;>exact key
theorem fU:itemsOf H (.lst xs)=ae xs:=rfl
theorem fV:itemsOf H (.tup xs)=ae xs:=rfl
theorem sZ{p:PV}:cK .Is p .none H k=k (isNone p):=rfl
theorem IF:fQ X n .intOf aY [.str x] H Q=(x.length<=640/\ok (uC x) λi=>Q (.int i) H):=rfl
theorem WG{a b:Int}:iY .LShift aY (.int a) (.int b) H Q=((0<=b/\b<=1000/\a.natAbs<2^64)/\Q (.int (a*2^b.toNat)) H):=rfl
theorem jj{n:Nat}:itemsOf H (.eh n)=ae (nats (bw n)):=rfl
theorem La:itemsOf H (.str x)=ae (chars x):=rfl
theorem in_str{y:Str}:inR (.str y) (.str x) H k=k (!(AV x y 0 x.length 1).isEmpty):=rfl
theorem acG{y:Str}:io .isspace (.str y) [] H Q=Q (.bool (A4 y)) H:=rfl
theorem abr{i:Int}:eV (.str x) (.int i) H Q=((0<=i/\i<2^60)/\ok (x.cps[i.toNat]?) λc=>Q (.str ⟨#[c]⟩) H):=rfl
theorem IX{p:PV}:cK .Eq p q H k=(p.jc q/\k (p.eqv q)):=rfl
theorem W9{p:PV}:cK .NotEq p q H k=(p.jc q/\k (!p.eqv q)):=rfl
theorem ae2:qe (.str x) lo hi aY H Q=((lj x lo hi).length<=aI/\Q (.str (lj x lo hi)) H):=rfl
@[simp] theorem aC:tq aq Q=Q:=rfl
@[simp] theorem qj{b:Bool}:tq ag Q (.bool b) H=Q (.bool b) H:=rfl
end
noncomputable def oC(up:List Nat):Nat->Nat->Nat
 |0,a=>a
 |k+1,a=>if up.getD a 0=a then a else oC up k (up.getD a 0)
noncomputable def root(up:List Nat)(a:Nat):Nat:=oC up (a+1) a
def gc(up:List Nat):Prop:=∀a,a<up.length->up.getD a 0<=a
set_option tactic.hygienic true in
theorem aer{up:List Nat}(hf:gc up):∀{k a:Nat},a<up.length->a<k->oC up k a=root up a:=by
 have key:∀k a j,a<up.length->a<k->a<j->oC up k a=oC up j a:=by
  intro k;induction k with
  |zero=>intro a j _ h;exact P7 h
  |succ k ih=>
   intro a j ha hk hj;cases j with
   |zero=>exact P8 hj
   |succ j=>
    unfold oC;split
    ·rfl
    ·rename_i dJ
     have:=hf a ha;exact ih _ _ (qU ha this) (G4 hk dJ this) (G4 hj dJ this)
 exactλ{k a} ha hk=>key _ _ _ ha hk (xe _)
theorem qc{up:List Nat}(hf:gc up)(ha:a<up.length)(h:up.getD a 0≠a):root up (up.getD a 0)=root up a:=by
 have:=hf a ha;refine(?_:_=oC up (a+1) a);unfold oC;refine aa (if_neg h ..) ?_;exact(aer hf (qU ha this) (P9 h this)).symm
theorem lb{up:List Nat}(h:up.getD a 0=a):root up a=a:=by
 unfold root oC;(refine aa (if_pos h ..) ?_;rfl)
section
variable{X:Fx}{n:Nat}(C:Ok X){σ:St}{v:List aF}
include C
theorem Am(hf:gc σ.up)(ha:a<σ.up.length)(hz:σ.up.length<=aI):bC X 1 .mH [hU,nat a] (av fd σ tl v t) (λp H'=>p=nat (root σ.up a)/\H'=av fd σ tl v t):=by
 refine eu (M:=Ez) C.O (C.ck .mH (λh=>Fn.noConfusion h)) rfl λQz bu=>?_
 (with_reducible refine aD ?_;simp only[Ez,ce,bB,ci,cu,cA,bX,aE,wQ,cc,aG,aC,dM,ch])
 refine⟨λk ρ H=>∃b,k=b/\b<σ.up.length/\ρ=[ae hU,ae (nat b)]/\root σ.up b=root σ.up a/\H=av fd σ tl v t,⟨a,a,rfl,ha,rfl,rfl,rfl⟩,?_⟩
 (intro k;intro ρ;intro H;intro aj;refine ay aj ?_;clear aj;rintro b rfl aS;refine eB aS ?_;clear aS;rintro hb rfl cO;refine aK cO ?_;clear cO;rintro hr rfl)
 simp only[gz,gs,aw,nZ,zx nh hb hz,yA];by_cases h:σ.up.getD k 0=k
 ·refine aa (decide_eq_true h ..) ?_
  refine(if_neg dG).mpr ?_
  (with_reducible refine aD ?_;simp only[aE,be,cf,aG,gs,gz,aC,aw])
  exact bu _ _ ⟨by(refine aQ (hr ..) ?_;refine aa (lb h ..) ?_;rfl),rfl⟩
 ·refine aa (decide_eq_false h ..) ?_
  refine(if_pos rfl).mpr ?_
  (with_reducible refine aD ?_;simp only[aE,be,bE,bZ,aR,bh,dM,aC,aG,gs,gz,aw,ch,nZ,zx nh hb hz])
  have h2:=hf k hb;exact⟨_,uL h h2,_,rfl,qU hb h2,rfl,(qc hf hb h).trans hr,trivial⟩
end
end
variable{σ τ:St}
section
theorem E8{x y:PV}:aR (aR ρ i x) i y=aR ρ i y:=by unfold aR;simp
section
variable{ev:aJ->HP->(PV->HP->Prop)->Prop}
theorem n4{f:PV->PV}{c:PV->Bool}{Q:aJ->aF->HP->Prop}:∀{xs acc:List PV},(∀x∈xs,∀Q,Q (c x) H->gt (aR ρ i x) H Q)->(∀x∈xs,c x=ag->∀Q,Q (f x) H->ev (aR ρ i x) H Q)->acc.length+xs.length<=aI->dj H->∀aU:aJ,(∀y,aR aU i y=aR ρ i y)->(∀cG,Q cG (.list (acc++(xs.filter c).map f)) H)->cw i gt (fh ev) dj xs aU (.list acc) H Q:=by
 intro xs;induction xs with
 |nil=>
  intro acc ht he hz hc aU d0 hq;rewrite[cw];simpa using hq aU
 |cons x xs ih=>
  intro acc ht he hz hc aU d0 hq;have hs:∀y,aR (aR ρ i x) i y=aR ρ i y:=λy=>E8
  (rewrite[cw];rewrite[d0])
  refine ht x ca _ ?_;by_cases hb:c x=ag
  ·refine aa (if_pos hb ..) ?_
   refine⟨by simp at hz;exact BA hz,he x ca hb _ ⟨hc,?_⟩⟩;refine ih (λy hy=>ht y (cI _ hy)) (λy hy=>he y (cI _ hy)) (by simp at hz⊢;exact xT hz) hc _ hs λcG=>?_
   have:=hq cG;rw[Oc hb,bB]at this;simpa using this
  ·refine aa (if_neg hb ..) ?_
   refine⟨hc,ih (λy hy=>ht y (cI _ hy)) (λy hy=>he y (cI _ hy)) (by simp at hz⊢;exact Qa hz) hc _ hs λcG=>?_⟩
   have:=hq cG;rw[Ob hb]at this;exact this
theorem m7{f:PV->PV}{Q:aJ->aF->HP->Prop}(ht:∀ρ H Q,Q ag H->gt ρ H Q)(he:∀x∈xs,∀Q,Q (f x) H->ev (aR ρ i x) H Q)(hz:xs.length<=aI)(hc:dj H)
 (hq:∀cG,Q cG (.list (xs.map f)) H):cw i gt (fh ev) dj xs ρ (.list []) H Q:=
 n4 (c:=λU=>ag) (λx U Q h=>ht _ _ _ h) (λx hx U=>he x hx) (by simpa using hz) hc ρ (λU=>rfl) λcG=>by
  have e:xs.filter (λU=>ag)=xs:=by simp
  refine aa (e ..) ?_;exact hq cG
end
section
variable{X:Fx}{n:Nat}(C:Ok X){v:List aF}
include C
theorem nf(hf:gc σ.up)(ha:a<σ.up.length)(hz:σ.up.length<=aI):bC X 2 .find [hH,nat a] (av fd σ tl v t) (λp H'=>p=nat (root σ.up a)/\H'=av fd σ tl v t):=by
 refine jf (M:=m_find) C.O (C.ck .find (λh=>Fn.noConfusion h)) rfl ?_
 (with_reducible refine aD ?_;simp only[m_find,ce,bB,ci,cu,cA,bX,aE,be,cf,de,aC,a0,aT,aG,gs,gz,aw,ch,rg])
 exact⟨nv rfl,(Am C hf ha hz).mono λp H' x=>x⟩
theorem Nt(hz:σ.up.length<=aI):bC X 1 .qn [hU] (av fd σ tl v t) (λp H'=>p=nat σ.up.length/\H'=av fd σ tl v t):=by
 refine jf (M:=ED) C.O (C.ck .qn (λh=>Fn.noConfusion h)) rfl ?_
 (with_reducible refine aD ?_;simp only[ED,ce,bB,ci,cu,cA,bX,aE,be,cf,cM,aC,a0,aT,ch,aG,gz,aw,nZ,jO nh])
 exact⟨by(rewrite[nats];rewrite[bp]);exact hz,by(rewrite[nats];rewrite[bp];rfl),trivial⟩
theorem adM(ha:σ.ops[a]? =ae nd)(hz:a<=aI):bC X 1 .op [hB,nat a] (av fd σ tl v t) (λp H'=>p=.str nd.1/\H'=av fd σ tl v t):=by
 refine jf (M:=Es) C.O (C.ck .op (λh=>Fn.noConfusion h)) rfl ?_
 (with_reducible refine aD ?_;simp only[Es,ce,bB,ci,cu,cA,bX,aE,be,cf,dM,aC,cT,aG,gs,gz,aw,ch,uW])
 refine aa (nq vn (x:=bk nd) (by simp[ha]) hz ..) ?_;refine aa (vY ..) ?_;unfold bk;refine aa (abt (x:=.str nd.1) rfl (cJ _) ..) ?_
 first|exact⟨rfl,rfl⟩|exact⟨rfl,trivial⟩
theorem ab4(ha:σ.ops[a]? =ae nd)(hz:a<=aI)(hk:nd.2.length<aI):bC X 1 .kids [hB,nat a] (av fd σ tl v t) (λp H'=>p=.tup (nats nd.2)/\H'=av fd σ tl v t):=by
 refine jf (M:=Ee) C.O (C.ck .kids (λh=>Fn.noConfusion h)) rfl ?_
 (with_reducible refine aD ?_;simp only[Ee,ce,bB,ci,cu,cA,bX,aE,be,cf,nI,aC,dM,aG,gs,gz,aw,ch,uW])
 refine aa (nq vn (x:=bk nd) (by simp[ha]) hz ..) ?_;unfold bk;exact⟨⟨bj _,by exact bR rfl,by simp[nats];exact pA hk⟩,rfl,rfl⟩
noncomputable def canon(up:List Nat)(nd:Str×List Nat):Str×List Nat:=(nd.1,nd.2.map (root up))
theorem L8(hf:gc σ.up)(ha:σ.ops[a]? =ae nd)(mv:∀k∈nd.2,k<σ.up.length)(hz:σ.up.length<=aI)(J4:a<=aI)(hk:nd.2.length<=100):bC X 3 .node [hH,nat a] (av fd σ tl v t) (λp H'=>p=bk (canon σ.up nd)/\H'=av fd σ tl v t):=by
 have hL:aI=1000000:=rfl;refine jf (M:=Eo) C.O (C.ck .node (λh=>Fn.noConfusion h)) rfl ?_
 (with_reducible refine aD ?_;simp only[Eo,ce,bB,ci,cu,cA,bX,aE,be,cf,eP,aC,cM,a0,aT,gM,gs,gz,de,aG,aw,ch,eQ,Cg])
 refine⟨zR rfl,((adM C ha J4).le (by omega)).mono ?_⟩
 (intro p;intro H';intro aj;refine aK aj ?_;clear aj;rintro rfl rfl)
 refine⟨by exact bR rfl,trivial,?_⟩;simp only[Cg];refine⟨zR rfl,((ab4 C ha J4 (BB hk hL)).le (by omega)).mono ?_⟩
 (intro p;intro H';intro aj;refine aK aj ?_;clear aj;rintro rfl rfl)
 simp only[fV];refine m7 (f:=λp=>match p with|.int i=>nat (root σ.up i.toNat)|_=> .none) (λρ H Q h=>h) (λx hx Q hq=>?_) (by simp[nats];exact qV hk hL) trivial λcG=>?_
 ·(refine ay (bH.mp hx) ?_;rintro k cV rfl)
  simp only[aR,bh,List.getD_cons_zero,FT];refine⟨fX rfl,(nf C hf (mv k cV) hz).mono ?_⟩
  (intro p;intro H';intro aj;refine aK aj ?_;clear aj;rintro rfl rfl)
  exact hq
 ·simp only[ku]
  refine⟨_,rfl,?_⟩;refine⟨by simp[nats];exact qV hk hL,?_⟩;refine⟨rfl,by simp[nats];exact Qb hk hL,?_,rfl⟩;unfold bk canon nats;refine aa (cB ..) ?_;refine aa (cB ..) ?_;rfl
end
end
section
noncomputable def St.make(σ:St):St:={σ with up:=σ.up++[σ.up.length],bx:=σ.bx++[[σ.bx.length]]}
theorem ow{a b:List Nat}:nats (a++b)=nats a++nats b:=iN
theorem EQ:nats [a]=[nat a]:=rfl
theorem bQ{a:List Nat}:(nats a).length=a.length:=bp _
noncomputable def St.tZ(σ:St)(k g:Nat):St:={σ with up:=σ.up.set g k,bx:=σ.bx.set k (σ.bx.getD k []++σ.bx.getD g []),merged:=σ.merged++[.tup [nat k,nat g]]}
section
variable{X:Fx}{n:Nat}{ys:List PV}
theorem j9(e:H.get l=ae (.list xs)):io .append (.ak l) [q] H Q=(xs.length<aI/\Q .none (H.set (.list (xs++[q])) l)):=by
 refine(?_:(match H.get l with|some (.list xs)=>xs.length<aI/\Q .none (H.set (.list (xs++[q])) l)|_=>False)=_);refine aa (e ..) ?_;rfl
theorem Jq(e:H.get l=ae (.list xs))(e2:listOf H q=ae ys):io .extend (.ak l) [q] H Q=(xs.length+ys.length<=aI/\Q .none (H.set (.list (xs++ys)) l)):=by
 refine(?_:(match H.get l with|some (.list xs)=>ok (listOf H q) λys=>xs.length+ys.length<=aI/\Q .none (H.set (.list (xs++ys)) l)|_=>False)=_);refine aa (e ..) ?_;refine aa (e2 ..) ?_;rfl
theorem ad4(e:H.get l=ae (.list (xs++[q]))):io .pop (.ak l) [] H Q=Q q (H.set (.list xs) l):=by
 refine(?_:(match H.get l with|some (.list xs)=>ok xs.getLast? λq=>Q q (H.set (.list xs.dropLast) l)|_=>False)=_);refine aa (e ..) ?_;refine(?_:ok (xs++[q]).getLast? (λz=>Q z (H.set (.list (xs++[q]).dropLast) l))=_);refine aa (List.getLast?_concat ..) ?_;refine aa (N7 ..) ?_;rfl
theorem jn{m:LM}(hm:m=.append\/m=.extend\/m=.pop)(e:H.get l=ae (.list xs)):oG m (.ak l) H:=by
 have key:(match H.get l with|some (.list _)=>True|_=>False):=by refine aa (e ..) ?_;trivial
 rcases hm with rfl|rfl|rfl<;>exact key
end
section
variable{X:Fx}{n:Nat}(C:Ok X){v:List aF}
theorem MR{ys:List Nat}:(av fd σ tl v t).set (.list (nats ys)) (.s 11)=av fd {σ with up:=ys} tl v t:=rfl
theorem aeF{ys:List PV}:(av fd σ tl v t).set (.list ys) (.s 13)=av fd {σ with merged:=ys} tl v t:=rfl
theorem aeG{ys:List PV}:(av fd σ tl v t).set (.list ys) (.s 14)=av fd {σ with dc:=ys} tl v t:=rfl
theorem aeH{ys:List PV}:(av fd σ tl v t).set (.list ys) (.s 15)=av fd {σ with dO:=ys} tl v t:=rfl
theorem MT{ys:List Nat}:(av fd σ tl v t).set (.list (nats ys)) (.s 18)=av fd {σ with wait:=ys} tl v t:=rfl
theorem aeI{ys:List ((Str×List Nat)×Nat)}:(av fd σ tl v t).set (.bL (gW ys)) (.s 16)=av fd {σ with known:=ys} tl v t:=rfl
theorem MS{ys:List (Nat×Nat)}:(av fd σ tl v t).set (.aH (kN ys)) (.s 17)=av fd {σ with ab:=ys} tl v t:=rfl
theorem aeU{ys:List Nat}:(av fd σ tl v t).set (.list (nats ys)) (.l k)=av fd {σ with bx:=σ.bx.set k ys} tl v t:=
 kY (congrArg (λz=>sH fd (σ.ops.map bk) (iq σ.ops) (cL σ.dd) (cL σ.db) (nats σ.up) ((bw z).map λk=> .ak (.l k)) σ.merged σ.dc σ.dO (gW σ.known) (kN σ.ab) (nats σ.wait) tl) qA.symm) AG.symm rfl rfl rfl
theorem aeN{ys:List Nat}:(av fd σ tl v t).set (.list (nats ys)) (.a k)=av fd {σ with al:=σ.al.set k ys} tl v t:=
 kY rfl rfl AG.symm rfl rfl
theorem My{ys:List Nat}:(av fd σ tl v t).push (.list (nats ys)) .a=av fd {σ with al:=σ.al++[ys]} tl v t:=
 kY rfl rfl (iN (f:=λxs=>aF.list (nats xs)) (l₁:=σ.al) (l₂:=[ys])).symm rfl rfl
theorem L4:(av fd σ tl v t).next .a=.a σ.al.length:=congrArg cr.a (bp _)
include C
theorem acV(hz:σ.up.length<aI)(hl:σ.bx.length<aI):bC X 1 .make [hU] (av fd σ tl v t) (λp H'=>p=nat σ.up.length/\H'=av fd σ.make tl v t):=by
 refine eu (M:=Ei) C.O (C.ck .make (λh=>Fn.noConfusion h)) rfl λQz bu=>?_
 (with_reducible refine aD ?_;simp only[Ei,ce,bB,ci,cu,cA,bX,aE,fq,fD,aC,a0,aT,cM,ch,aG,gz,aw,nZ,jO nh,bQ])
 refine⟨jn (by exact .inl rfl) nh,xU hz,?_⟩;refine aa (j9 nh ..) ?_;refine aQ (EQ ..) ?_;refine aQ (ow ..) ?_;refine aa (MR ..) ?_;refine⟨by refine aa (bQ ..) ?_;exact hz,rfl,?_⟩
 (with_reducible refine aD ?_;simp only[aE,fq,fD,aC,a0,aT,fr,jP,cM,ch,aG,gz,aw])
 simp only[nZ,yp,jO vk,bp,eZ];refine⟨jn (by exact .inl rfl) vk,xU hl,by first|exact bR rfl|(simp;decide),?_⟩;have e1:((av fd {σ with up:=σ.up++[σ.up.length]} tl v t).push (.list [nat σ.bx.length]) .l).get (.s 12)=ae (.list ((bw σ.bx.length).map λk=> .ak (.l k))):=rfl;have e2:(((av fd {σ with up:=σ.up++[σ.up.length]} tl v t).push (.list [nat σ.bx.length]) .l).set (.list (((bw σ.bx.length).map λk=> .ak (.l k))++[.ak ((av fd {σ with up:=σ.up++[σ.up.length]} tl v t).next .l)])) (.s 12))=av fd σ.make tl v t:=by
  refine kY (congrArg (λz=>sH fd (σ.ops.map bk) (iq σ.ops) (cL σ.dd) (cL σ.db) (nats (σ.up++[σ.up.length])) z σ.merged σ.dc σ.dO (gW σ.known) (kN σ.ab) (nats σ.wait) tl) ?_) (iN (f:=λxs=>aF.list (nats xs)) (l₁:=σ.bx) (l₂:=[[σ.bx.length]])).symm rfl rfl rfl;refine aa ((show(σ.bx++[[σ.bx.length]]).length=σ.bx.length+1 from bS) ..) ?_;refine aa (AJ ..) ?_;refine aa (iN ..) ?_;exact congrArg (λz=>_++[PV.ak (.l z)]) (bp _)
 refine(?_:io .append (.ak (.s 12)) _ _ _);refine aa (j9 e1 ..) ?_;refine aa (e2 ..) ?_;refine⟨by simpa using hl,rfl,?_⟩
 (with_reducible refine aD ?_;simp only[aE,be,cf,eP,aC,cT,cM,a0,aT,ch,aG,gz,aw])
 simp only[nZ,jO nh,bQ,on,aC];simp only[St.make,bS,dX,jx];refine aa (yw (Qc) ..) ?_;exact⟨Qd hz,bu _ _ ⟨rfl,rfl⟩⟩
end
end
section
noncomputable def dK(l:List Nat):List Nat:=(lW (l.map i7)).map i8
theorem afa(l:List Nat):(lW (l.map i7)).map PV.int=nats (dK l):=by
 unfold dK nats;refine aa (cB ..) ?_;refine iO λx hx=>?_;refine ay (bH.mp ((Fb _).mem_iff.mp hx)) ?_;rintro k aj rfl;rfl
theorem jS(l:List Nat):(dK l).Perm l:=by
 have h:=(Fb (l.map i7)).map i8;have e:(l.map i7).map i8=l:=by
  refine aa (cB ..) ?_;have:(i8∘i7)=id:=by funext k;rfl
  refine aa (this ..) ?_;rewrite[qB];rfl
 rw[e]at h;exact h
theorem M3(l:List Nat):(dK l).Pairwise (·<= ·):=by
 unfold dK;rewrite[OA];exact(M4 _).imp λh=>Int.toNat_le_toNat h
theorem abA:∀l:List Nat,intsOf (nats l)=ae (l.map i7):=by
 intro l;induction l with
 |nil=>
  exact rfl
 |cons k l ih=>
  refine(?_:(match intOf (nat k),intsOf (nats l)with|some i,ae is=>ae (i::is)|_,_=>ai)=_);refine aa (ih ..) ?_;rfl
theorem afc(a b:Nat):dK [a,b]=[min a b,max a b]:=by
 have hp:=jS [a,b]
 have hs:=M3 [a,b];generalize dK [a,b]=l at hp hs
 match l,hp.length_eq with
 |[x,y],_=>
  have hle:x<=y:=by simpa using hs
  have hx:x=a\/x=b:=by simpa using hp.mem_iff.mp (ca)
  have Dw:=hp.sum_nat;simp only[qE,List.sum_nil]at Dw;have e1:x=min a b:=Qe hle hx Dw;have e2:y=max a b:=Qf Dw e1;refine aa (e1 ..) ?_;refine aa (e2 ..) ?_;rfl
section
variable{X:Fx}{n:Nat}
theorem Fe{p:PV}{xs:List Nat}(e:Af H p=ae (nats xs)):fQ X n .sorted aY [p] H Q=(xs.length<64/\eb aY (nats (dK xs)) H Q):=by
 refine(?_:ok (Af H p) (λxs=>ok (intsOf xs) λns=>ns.length<64/\eb aY ((lW ns).map PV.int) H Q)=_);refine aa (e ..) ?_;simp only[aw,abA,afa,bp]
theorem afh{xs:List Nat}:fQ X n .sorted aY [.lst (nats xs)] H Q=(xs.length<64/\eb aY (nats (dK xs)) H Q):=Fe rfl
theorem aff{xs:List Nat}(e:H.get l=ae (.list (nats xs))):fQ X n .sorted aY [.ak l] H Q=(xs.length<64/\eb aY (nats (dK xs)) H Q):=by
 refine Fe ?_;refine(?_:(match H.get l with|some (.aH xs)=>ae (xs.map λx:Atom×PV=>x.1.pv)|some (.list xs)=>ae xs|_=>ai)=_);refine aa (e ..) ?_;rfl
theorem Fc{α:Type}{f:α->Nat×PV}{xs:List α}(e:H.get l=ae (.aH (xs.map λx=>(.i ((f x).1:Int),(f x).2)))):fQ X n .sorted aY [.ak l] H Q=(xs.length<64/\eb aY (nats (dK (xs.map λx=>(f x).1))) H Q):=by
 have e2:(xs.map λx=>(Atom.i ((f x).1:Int),(f x).2)).map (λx=>x.1.pv)=nats (xs.map λx=>(f x).1):=by
  unfold nats;(refine aa (cB ..) ?_;refine aa (cB ..) ?_);rfl
 rw[Fe (p:=.ak l) (xs:=xs.map λx=>(f x).1) ?_,bp];refine(?_:(match H.get l with|some (.aH xs)=>ae (xs.map λx:Atom×PV=>x.1.pv)|some (.list xs)=>ae xs|_=>ai)=_);rw[e];exact congrArg ae e2
theorem aeO{xs:List Nat}{K:HP->Prop}(e:H.get l=ae (.list (nats xs))):jo (.ak l) (nat i) (nat k) H K=(i<xs.length/\K (H.set (.list (nats (xs.set i k))) l)):=by
 have e2:(nats xs).set i (nat k)=nats (xs.set i k):=by unfold nats;(refine aa (AG ..) ?_;rfl)
 refine aa ((show jo (.ak l) (nat i) (nat k) H K=_ from set_list e) ..) ?_;refine(?_:((0<=(i:Int)/\i<(nats xs).length)/\K (H.set (.list ((nats xs).set i (nat k))) l))=_);refine aa (e2 ..) ?_;refine aa (bQ ..) ?_;exact propext ⟨λz=>⟨z.1.2,z.2⟩,λz=>⟨⟨uM,z.1⟩,z.2⟩⟩
end
section
variable{X:Fx}{n:Nat}(C:Ok X){v:List aF}
include C
theorem af2(hf:gc σ.up)(ha:a<σ.up.length)(hb:b<σ.up.length)(hl:σ.bx.length=σ.up.length)(hz:σ.up.length<=aI)
 (hm:σ.merged.length<aI)(Dp:∀i j,(σ.bx.getD i []).length+(σ.bx.getD j []).length<=aI)
 (tA:root σ.up a<σ.up.length)(vM:root σ.up b<σ.up.length):bC X 2 .qm [hU,nat a,nat b] (av fd σ tl v t) (λp H'=>
   (root σ.up a=root σ.up b/\p=.none/\H'=av fd σ tl v t)\/
   (∃k g,k=min (root σ.up a) (root σ.up b)/\g=max (root σ.up a) (root σ.up b)/\root σ.up a≠root σ.up b/\p=.tup [nat k,nat g]/\H'=av fd (σ.tZ k g) tl v t)):=by
 have hL:aI=1000000:=rfl;refine eu (M:=EC) C.O (C.ck .qm (λh=>Fn.noConfusion h)) rfl λQz bu=>?_
 (with_reducible refine aD ?_;simp only[EC,ce,bB,ci,cu,cA,bX,aE,bE,r9,cM,aC,a0,aT,fr,fx,de,aG,gs,gz,aw])
 refine⟨nv rfl,(Am C hf ha hz).dt ?_⟩;refine⟨nv rfl,(Am C hf hb hz).dt ?_⟩;refine⟨by exact bR rfl,?_⟩;refine aa ((show[nat (root σ.up a),nat (root σ.up b)]=nats [root σ.up a,root σ.up b]from rfl) ..) ?_;refine aa (afh ..) ?_;rewrite[afc];refine aa (fx ..) ?_;refine⟨by exact bR rfl,by exact bR rfl,rfl,?_⟩;simp only[fV,fU,jj,aw];refine⟨rfl,?_⟩;simp only[nats,bB,ci,oE,aR,bh,oF]
 (with_reducible refine aD ?_;simp only[aE,w_ite,be,cc,ef,aG,gs,gz,aC,aw,m4])
 by_cases h:root σ.up a=root σ.up b
 ·refine aa (if_pos (by refine aa ((h) ..) ?_;simp) ..) ?_
  (with_reducible refine aD ?_;simp only[aE,be,cf,ju,aC])
  exact bu _ _ (.inl ⟨h,by trivial,by trivial⟩)
 ·refine aa (if_neg (by simp;exact Qg h) ..) ?_
  have hk:min (root σ.up a) (root σ.up b)<σ.up.length:=Qh vM;have hg:max (root σ.up a) (root σ.up b)<σ.up.length:=Qi tA vM;generalize e1:min (root σ.up a) (root σ.up b)=k at hk⊢;generalize e2:max (root σ.up a) (root σ.up b)=g at hg⊢
  (with_reducible refine aD ?_;simp only[aE,bE,nE,aG,gs,gz,aC,aw,ch,nZ,aeO nh,MR])
  refine⟨hg,?_⟩
  (with_reducible refine aD ?_;simp only[aE,fq,fD,aC,a0,aT,dM,aG,gs,gz,aw,ch,yp])
  refine aa (nq vk (x:=.ak (.l k)) (by exact EI (F4 hk hl.symm)) (BD hz hk) ..) ?_;have gl:∀{τ:St} (j:Nat),τ.bx=σ.bx->j<σ.up.length->(av fd τ tl v t).get (.l j)=ae (.list (nats (σ.bx.getD j []))):=by
   intro τ j ht hj
   (refine aa (YT ..) ?_;refine aa (ht ..) ?_;rewrite[getD_some (ie hl hj)]);rfl
  refine⟨jn (by exact .inr (.inl rfl)) (gl k rfl hk),?_⟩;simp only[yp];refine aa (nq vk (x:=.ak (.l g)) (by exact EI (F4 hg hl.symm)) (BD hz hg) ..) ?_;refine aa (Jq (gl (τ:={σ with up:=σ.up.set g k}) k rfl hk) (ys:=nats (σ.bx.getD g [])) (rO (gl (τ:={σ with up:=σ.up.set g k}) g rfl hg)) ..) ?_;refine⟨by(refine aa (bQ ..) ?_;refine aa (bQ ..) ?_);exact Dp k g,rfl,?_⟩;refine aQ (ow ..) ?_;refine aa (aeU ..) ?_
  (with_reducible refine aD ?_;simp only[aE,fq,fD,aC,a0,aT,eQ,aG,gs,gz,aw,ch,VZ])
  refine⟨jn (by exact .inl rfl) JJ,by exact bR rfl,?_⟩;refine aa (j9 JJ ..) ?_;refine aa (aeF ..) ?_;refine⟨hm,rfl,?_⟩
  (with_reducible refine aD ?_;simp only[aE,be,cf,eQ,aC,a0,aT,aG,gs,gz,aw])
  refine⟨by exact bR rfl,bu _ _ (.inr ⟨k,g,e1.symm,e2.symm,h,rfl,rfl⟩)⟩
end
end
section
section
variable{K K' V V':Type}[DecidableEq K][DecidableEq K']{f:K->K'}{g:V->V'}
noncomputable def jk(f:K->K')(g:V->V')(xs:List (K×V)):List (K'×V'):=xs.map λx=>(f x.1,g x.2)
theorem XC{k:K}:bc ([]:List (K×V)) k=ai:=rfl
theorem lH{x:K×V}{xs:List (K×V)}{k:K}:bc (x::xs) k=if x.1=k then ae x.2 else bc xs k:=by
 unfold bc;refine aa (List.find?_cons ..) ?_;by_cases h:x.1=k<;>simp[h]
theorem yH(hf:∀a b,f a=f b->a=b):∀(xs:List (K×V)) (k:K),bc (jk f g xs) (f k)=(bc xs k).map g:=by
 intro xs;induction xs with
 |nil=>
  intro k;exact rfl
 |cons x xs ih=>
  intro k;refine(?_:bc ((f x.1,g x.2)::jk f g xs) (f k)=_);refine aa (lH ..) ?_;refine aa (lH ..) ?_;refine aa (ih k ..) ?_;by_cases h:x.1=k
  ·(refine aa (if_pos h ..) ?_;refine aa (if_pos (by(refine aa ((h) ..) ?_;rfl)) ..) ?_);rfl
  ·(refine aa (if_neg h ..) ?_;refine aa (if_neg (λe=>h (hf _ _ e)) ..) ?_;rfl)
theorem VN(hf:∀a b,f a=f b->a=b)(xs:List (K×V))(k:K):(jk f g xs).any (λx=>decide (x.1=f k))=xs.any λx=>decide (x.1=k):=by
 unfold jk;refine aa (N3 ..) ?_
 congr 1
 funext x
 exact decide_eq_decide.mpr ⟨λe=>hf _ _ e,λe=>by(refine aQ (e ..) ?_;rfl)⟩
theorem CF(hf:∀a b,f a=f b->a=b)(xs:List (K×V))(k:K)(v:V):dput (jk f g xs) (f k) (g v)=jk f g (dput xs k v):=by
 unfold dput;rewrite[VN hf];split
 ·unfold jk
  refine aa (cB ..) ?_;refine aa (cB ..) ?_;refine iO λx U=>?_;refine(?_:(if f x.1=f k then(f x.1,g v)else(f x.1,g x.2))=(f (if x.1=k then(x.1,v)else x).1,g (if x.1=k then(x.1,v)else x).2));by_cases h:x.1=k
  ·(refine aa (if_pos h ..) ?_;refine aa (if_pos (by(refine aa ((h) ..) ?_;rfl)) ..) ?_;rfl)
  ·(refine aa (if_neg h ..) ?_;refine aa (if_neg (λe=>h (hf _ _ e)) ..) ?_;rfl)
 ·unfold jk;refine aa (iN ..) ?_;rfl
theorem Xu(hf:∀a b,f a=f b->a=b):∀(xs:List (K×V)) (k:K),fg (jk f g xs) (f k)=jk f g (fg xs k):=by
 intro xs;induction xs with
 |nil=>
  intro k;exact rfl
 |cons x xs ih=>
  intro k
  have ih:=ih k;unfold fg jk at ih⊢;refine aa (bB ..) ?_;refine aa (w9 ..) ?_;refine aa (w9 ..) ?_;refine aa (ih ..) ?_;by_cases h:x.1=k
  ·simp[h]
  ·have:f x.1≠f k:=λe=>h (hf _ _ e)
   simp[h,this]
set_option tactic.hygienic true in
theorem je(xs:List (K×V))(k k':K)(v:V):bc (dput xs k v) k'=if k'=k then ae v else bc xs k':=by
 unfold dput;split
 ·rename_i h
  induction xs with
  |nil=>exact ff h
  |cons x xs ih=>
   refine aa (bB ..) ?_;refine aa (lH ..) ?_;refine aa (lH ..) ?_;by_cases hx:x.1=k
   ·refine aa (if_pos hx ..) ?_
    simp only[hx];by_cases hk:k'=k
    ·(refine aa (if_pos hk.symm ..) ?_;refine aa (if_pos hk ..) ?_;rfl)
    ·(refine aa (if_neg (jz hk) ..) ?_;refine aa (if_neg hk ..) ?_;refine aa (if_neg (jz hk) ..) ?_)
     by_cases h2:xs.any (λx=>decide (x.1=k))=ag
     ·(refine aa (ih h2 ..) ?_;refine aa (if_neg hk ..) ?_;rfl)
     ·congr 1
      have:xs.map (λx=>if x.1=k then(x.1,v)else x)=xs:=by
       have h3:xs.map (λx=>if x.1=k then(x.1,v)else x)=xs.map id:=iO λy hy=>by
        have:¬y.1=k:=λe=>h2 (mN.mpr ⟨y,hy,by simp[e]⟩);refine aa (if_neg this ..) ?_;rfl
       refine aa (h3 ..) ?_;rewrite[qB];rfl
      exact this
   ·refine aa (if_neg hx ..) ?_
    have h2:xs.any (λx=>decide (x.1=k))=ag:=by simpa[hx]using h
    by_cases hk:x.1=k'
    ·(refine aa (if_pos hk ..) ?_;refine aa (if_pos hk ..) ?_;refine aa (if_neg (λe=>hx (hk.trans e)) ..) ?_;rfl)
    ·(refine aa (if_neg hk ..) ?_;refine aa (if_neg hk ..) ?_;refine aa (ih h2 ..) ?_;rfl)
 ·rename_i h
  induction xs with
  |nil=>(rewrite[bX];refine aa (lH ..) ?_;refine aa (XC ..) ?_);by_cases hk:k'=k<;>simp[hk,eq_comm];exactλe=>hk e.symm
  |cons x xs ih=>
   have h2:¬xs.any (λx=>decide (x.1=k))=ag:=λe=>h (by simp only[oQ,e,Bool.or_true]);have hx:x.1≠k:=λe=>h (by simp[e]);refine aa (cA ..) ?_;refine aa (lH ..) ?_;refine aa (lH ..) ?_;refine aa (ih h2 ..) ?_;by_cases hk:x.1=k'
   ·(refine aa (if_pos hk ..) ?_;refine aa (if_pos hk ..) ?_;refine aa (if_neg (λe=>hx (hk.trans e)) ..) ?_;rfl)
   ·(refine aa (if_neg hk ..) ?_;refine aa (if_neg hk ..) ?_;rfl)
theorem CB(xs:List (K×V))(k k':K):bc (fg xs k) k'=if k'=k then ai else bc xs k':=by
 induction xs with
 |nil=>simp[fg,bc]
 |cons x xs ih=>
  unfold fg at ih⊢;refine aa (w9 ..) ?_;by_cases hx:x.1=k
  ·(refine aa (if_neg (by simpa using hx) ..) ?_;refine aa (ih ..) ?_;refine aa (lH ..) ?_)
   by_cases hk:k'=k
   ·(refine aa (if_pos hk ..) ?_;refine aa (if_pos hk ..) ?_;rfl)
   ·(refine aa (if_neg hk ..) ?_;refine aa (if_neg hk ..) ?_;refine aa (if_neg (λe=>hk (e.symm.trans hx)) ..) ?_;rfl)
  ·(refine aa (if_pos (by simpa using hx) ..) ?_;refine aa (lH ..) ?_;refine aa (lH ..) ?_;refine aa (ih ..) ?_)
   by_cases hk:k'=k
   ·(refine aa (if_pos hk ..) ?_;refine aa (if_neg (λe=>hx (e.trans hk)) ..) ?_;refine aa (if_pos hk ..) ?_;rfl)
   ·(refine aa (if_neg hk ..) ?_;refine aa (if_neg hk ..) ?_;rfl)
end
theorem mD(h:Atom.i (a:Int)=Atom.i (b:Int)):a=b:=by injection h with h;exact FK h
theorem L2:∀{a b:List Nat},(a.map λ(k:Nat)=>Atom.i (k:Int))=b.map (λ(k:Nat)=>Atom.i (k:Int))->a=b
 |[],[],_=>rfl
 |[],_::_,h=>by simp at h
 |_::_,[],h=>by simp at h
 |a::as,b::bs,h=>by
  rw[bB,bB]at h;injection h with h1 h2;refine aa (mD h1 ..) ?_;refine aa (L2 h2 ..) ?_;rfl
theorem wo{a b:Str×List Nat}(h:fm a=fm b):a=b:=by
 unfold fm at h;injection h with h1 h2;injection h1 with h1;exact Prod.ext h1 (L2 h2)
theorem uQ(ab:List (Nat×Nat)):kN ab=jk (λ(k:Nat)=>Atom.i (k:Int)) (λ(k:Nat)=>PV.ak (.a k)) ab:=rfl
theorem DQ(ks:List ((Str×List Nat)×Nat)):gW ks=jk fm nat ks:=rfl
theorem I8(ab:List (Nat×Nat))(r:Nat):bc (kN ab) (.i (r:Int))=(bc ab r).map λk=> .ak (.a k):=by
 rewrite[uQ];exact yH (f:=λ(k:Nat)=>Atom.i (k:Int)) (λa b=>mD) ab r
theorem XK(ab:List (Nat×Nat))(r k:Nat):dput (kN ab) (.i (r:Int)) (.ak (.a k))=kN (dput ab r k):=by
 (rewrite[uQ];rewrite[uQ]);exact CF (f:=λ(k:Nat)=>Atom.i (k:Int)) (g:=λ(k:Nat)=>PV.ak (.a k)) (λa b=>mD) ab r k
theorem Xr(ab:List (Nat×Nat))(r:Nat):fg (kN ab) (.i (r:Int))=kN (fg ab r):=by
 (rewrite[uQ];rewrite[uQ]);exact Xu (f:=λ(k:Nat)=>Atom.i (k:Int)) (g:=λ(k:Nat)=>PV.ak (.a k)) (λa b=>mD) ab r
theorem Ja(ks:List ((Str×List Nat)×Nat))(nd:Str×List Nat):bc (gW ks) (fm nd)=(bc ks nd).map nat:=by
 rewrite[DQ];exact yH (λa b=>wo) ks nd
theorem Jd(ks:List ((Str×List Nat)×Nat))(nd:Str×List Nat)(k:Nat):dput (gW ks) (fm nd) (nat k)=gW (dput ks nd k):=by
 (rewrite[DQ];rewrite[DQ]);exact CF (λa b=>wo) ks nd k
theorem V4:∀l:List Nat,sV (nats l)=ae (l.map λ(k:Nat)=>Atom.i (k:Int)):=by
 intro l;induction l with
 |nil=>
  exact rfl
 |cons k l ih=>
  refine(?_:yF (ae (Atom.i (k:Int))) (sV (nats l))=_);refine aa (ih ..) ?_;rfl
theorem wb(nd:Str×List Nat):keyOf (bk nd)=ae (fm nd):=by
 refine(?_:yF (ae (Atom.x nd.1)) (sV (nats nd.2))=_);rewrite[V4];rfl
noncomputable def us(σ:St)(r:Nat):List Nat:=match bc σ.ab r with
 |some k=>σ.al.getD k []
 |none=>[]
noncomputable def pJ(a b:Nat)(rs:PV):PV:=.tup [nat a,nat b,rs]
noncomputable def St.kA(σ:St)(e:PV):St:={σ with dc:=σ.dc++[e]}
noncomputable def St.join(σ:St)(k g:Nat)(e:PV):St:=
 {(σ.kA e).tZ k g with dO:=σ.dO++[nat σ.dc.length],wait:=σ.wait++us σ g,al:=σ.al++[us σ k++us σ g],ab:=dput (fg σ.ab g) k σ.al.length}
section
variable{X:Fx}{n:Nat}{v:List aF}
theorem zv{x:Nat}(e:bc σ.ab r=ae x)(h:Q (.ak (.a x)) (av fd σ tl v t)):eV (.ak (.s 17)) (nat r) (av fd σ tl v t) Q:=by
 refine aa (zw yT ..) ?_;rewrite[I8];refine aa (e ..) ?_;rewrite[mc];rewrite[aw];exact h
theorem vi{x:Nat}(e:x<σ.al.length):(av fd σ tl v t).get (.a x)=ae (.list (nats (σ.al.getD x []))):=by
 exact map_getD e
theorem getL{x:Nat}(e:x<σ.bx.length):(av fd σ tl v t).get (.l x)=ae (.list (nats (σ.bx.getD x []))):=by
 exact map_getD e
theorem YA{x:Nat}(e:(av fd σ tl v t).get l=ae (.list xs))(h:x<σ.al.length)(hz:xs.length+(σ.al.getD x []).length<=aI)(hq:Q .none ((av fd σ tl v t).set (.list (xs++nats (σ.al.getD x []))) l)):
 io .extend (.ak l) [.ak (.a x)] (av fd σ tl v t) Q:=by
 refine aa (Jq e (ys:=nats (σ.al.getD x [])) (rO (vi h)) ..) ?_;exact⟨by refine aa (bQ ..) ?_;exact hz,hq⟩
theorem XJ{x:Nat}(e:bc σ.ab r=ae x)(h:Q (.ak (.a x)) (av fd {σ with ab:=fg σ.ab r} tl v t)):io .jI (.ak (.s 17)) [nat r] (av fd σ tl v t) Q:=by
 refine aa (LG yT ..) ?_;rewrite[I8];refine aa (e ..) ?_;rewrite[mc];rewrite[aw];rewrite[Xr];refine aa (MS ..) ?_;exact h
theorem Vs{x y:Nat}(hx:x<σ.al.length)(hy:y<σ.al.length)(hz:(σ.al.getD x []).length+(σ.al.getD y []).length<=aI)(h:Q (.ak (.a σ.al.length)) (av fd {σ with al:=σ.al++[σ.al.getD x []++σ.al.getD y []]} tl v t)):
 iY .Add (ae .a) (.ak (.a x)) (.ak (.a y)) (av fd σ tl v t) Q:=by
 refine(?_:(oV.Add=.Add/\ok (listOf _ _) λxs=>ok (listOf _ _) λys=>eb (ae .a) (xs++ys) _ Q));refine aa (rO (vi hx) ..) ?_;refine aa (rO (vi hy) ..) ?_;simp only[aw,jP,<-ow,My,L4,bQ,bS];exact⟨trivial,hz,h⟩
theorem Mz{x:Nat}{K:HP->Prop}(hz:σ.ab.length<aI)(h:K (av fd {σ with ab:=dput σ.ab r x} tl v t)):jo (.ak (.s 17)) (nat r) (.ak (.a x)) (av fd σ tl v t) K:=by
 refine aa (wG yT ..) ?_;rewrite[XK];refine aa (MS ..) ?_;exact⟨by unfold kN;rewrite[bp];exact hz,h⟩
end
section
variable{X:Fx}{n:Nat}(C:Ok X){v:List aF}
include C
theorem Li{rs:PV}(hf:gc σ.up)(ha:a<σ.up.length)(hb:b<σ.up.length)(hl:σ.bx.length=σ.up.length)(hz:σ.up.length<=aI)
 (hm:σ.merged.length<aI)(Dp:∀i j,(σ.bx.getD i []).length+(σ.bx.getD j []).length<=aI)
 (tA:root σ.up a<σ.up.length)(vM:root σ.up b<σ.up.length)(he:σ.dc.length<aI)(ZR:σ.dO.length<aI)
 (fH:∀r,r=root σ.up a\/r=root σ.up b->∃x,bc σ.ab r=ae x/\x<σ.al.length)(rq:σ.ab.length<aI)
 (hu:∀i j,(us σ i).length+(us σ j).length<=aI)(hw:∀i,σ.wait.length+(us σ i).length<=aI):
 bC X 3 .join [hH,nat a,nat b,rs] (av fd σ tl v t) (λp H'=>
  (root σ.up a=root σ.up b/\p=.bool aq/\H'=av fd (σ.kA (pJ a b rs)) tl v t)\/
  (∃k g,k=min (root σ.up a) (root σ.up b)/\g=max (root σ.up a) (root σ.up b)/\root σ.up a≠root σ.up b/\p=.bool ag/\H'=av fd (σ.join k g (pJ a b rs)) tl v t)):=by
 have hL:aI=1000000:=rfl;refine eu (M:=Ea) C.O (C.ck .join (λh=>Fn.noConfusion h)) rfl λQz bu=>?_
 (with_reducible refine aD ?_;simp only[Ea,ce,bB,ci,cu,cA,bX,aE,fq,fD,aC,a0,aT,eQ,aG,gs,gz,aw,ch,IA])
 refine⟨jn (by exact .inl rfl) CT,by exact bR rfl,?_⟩;refine aa (j9 CT ..) ?_;refine aa (aeG ..) ?_;refine⟨he,rfl,?_⟩
 (with_reducible refine aD ?_;simp only[aE,bE,bZ,aR,bh,de,aC,a0,aT,aG,gs,gz,aw,ch,rg])
 refine⟨nv rfl,(af2 (σ:=σ.kA (pJ a b rs)) C hf ha hb hl hz hm Dp tA vM).mono ?_⟩;rintro p H' (⟨h,rfl,rfl⟩|⟨k,g,ek,eg,h,rfl,rfl⟩)
 ·(with_reducible refine aD ?_;simp only[aE,w_ite,be,cc,ef,ju,aC,sZ,isNone,aG,gs,gz,aw,if_true])
  (with_reducible refine aD ?_;simp only[aE,be,cf,lu,aC])
  exact bu _ _ (.inl ⟨h,by trivial,by trivial⟩)
 ·have h':root σ.up a≠root σ.up b:=h
  have tc:k=min (root σ.up a) (root σ.up b):=ek;have XT:g=max (root σ.up a) (root σ.up b):=eg;refine aK (EL h' tc XT) ?_;intro bo ii;refine aK (ab2 ii tA vM) ?_;intro hk hg;refine ay (fH k (ii.imp And.left And.left)) ?_;intro xk gk lk;refine ay (fH g (ii.imp And.right And.right).symm) ?_;intro xg gg lg;have uk:us σ k=σ.al.getD xk []:=by unfold us;(refine aa (gk ..) ?_;rfl)
  have ug:us σ g=σ.al.getD xg []:=by unfold us;(refine aa (gg ..) ?_;rfl)
  have iE:k≠g:=dN bo;have abd:σ.wait.length+(σ.al.getD xg []).length<=aI:=by refine aQ (ug ..) ?_;exact hw g
  have aa3:(σ.al.getD xk []).length+(σ.al.getD xg []).length<=aI:=by(refine aQ (uk ..) ?_;refine aQ (ug ..) ?_);exact hu k g
  (with_reducible refine aD ?_;simp only[aE,w_ite,be,cc,ef,ju,aC,sZ,isNone,aG,gs,gz,aw,dF,if_false])
  (with_reducible refine aD ?_;simp only[aE,bE,r9,dX,jx,aG,gs,gz,aC,aw,tU,fV,oE,aR,bh,oF])
  refine⟨trivial,trivial,?_⟩
  (with_reducible refine aD ?_;simp only[aE,fq,fD,aC,a0,aT,eP,cT,cM,ch,aG,gz,aw,VX,IA])
  refine⟨jn (by exact .inl rfl) JK,?_⟩;refine aa (jO CT ..) ?_;refine aa (on ..) ?_;refine aa (yw (by simp[St.tZ,St.kA]) ..) ?_;refine⟨by simp[St.tZ,St.kA];exact pA he,?_⟩;refine aa (j9 JK ..) ?_;refine aa (aeH ..) ?_;refine⟨ZR,rfl,?_⟩
  (with_reducible refine aD ?_;simp only[aE,fq,fD,aC,a0,aT,dM,aG,gs,gz,aw,ch,Ch])
  refine⟨jn (by exact .inr (.inl rfl)) vl,?_⟩;simp only[sU];refine zv (x:=xg) gg ?_;refine YA vl lg (by refine aa (bQ ..) ?_;exact abd) ⟨rfl,?_⟩;refine aQ (ow ..) ?_;refine aa (MT ..) ?_
  (with_reducible refine aD ?_;simp only[aE,bE,nE,aG,gs,gz,aC,aw,ch,eP,fD,a0,aT,dM,sU])
  refine zv (x:=xk) gk ?_;refine⟨E6 (.inr rfl) yT,?_⟩;refine XJ (x:=xg) gg ?_;refine Vs lk lg aa3 ?_;simp only[sU];refine Mz ?_ ?_
  rotate_left
  ·(with_reducible refine aD ?_;simp only[aE,be,cf,lu,aC])
   refine bu _ _ (.inr ⟨k,g,ek,eg,h,by trivial,?_⟩);simp only[St.join,uk,ug];have:((σ.kA (pJ a b rs)).tZ k g).dc.length - 1=σ.dc.length:=by simp[St.tZ,St.kA]
   refine aa (this ..) ?_;rfl
  ·exact xd (um _ _) rq
end
end
section
section
variable{up:List Nat}
theorem aeu(hf:gc up):∀{a:Nat},a<up.length->root up a<=a:=by
 intro a;induction a using xj with
 |ind a ih=>
  intro ha;by_cases h:up.getD a 0=a
  ·refine aa (lb h ..) ?_;exact bj a
  ·have h2:=hf a ha
   refine aQ (qc hf ha h ..) ?_;exact B4 h2 (ih _ (uL h h2) (show up.getD a 0<up.length by exact qU ha h2))
theorem fK(hf:gc up)(ha:a<up.length):root up a<up.length:=xd (aeu hf ha) ha
theorem lh(hf:gc up):∀{a:Nat},a<up.length->up.getD (root up a) 0=root up a:=by
 intro a;induction a using xj with
 |ind a ih=>
  intro ha;by_cases h:up.getD a 0=a
  ·refine aa (lb h ..) ?_;exact h
  ·have h2:=hf a ha
   refine aQ (qc hf ha h ..) ?_;exact ih _ (uL h h2) (qU ha h2)
theorem wD(hf:gc up)(ha:a<up.length):root up (root up a)=root up a:=lb (lh hf ha)
theorem vj{l:List Nat}{x d:Nat}(hi:i<l.length):(l.set i x).getD j d=if j=i then x else l.getD j d:=by
 refine aa (da ..) ?_;refine aa (uj ..) ?_;refine aa (da ..) ?_;by_cases h:i=j
 ·subst h;simp[hi]
 ·(refine aa (if_neg h ..) ?_;refine aa (if_neg (jz h) ..) ?_;rfl)
theorem Jz(hf:gc up){g:Nat}(hg:g<up.length)(iE:k<g):gc (up.set g k):=by
 intro a ha;rw[qA]at ha;refine aa (vj hg ..) ?_;by_cases h:a=g
 ·refine aa (if_pos h ..) ?_;exact Qj iE h
 ·refine aa (if_neg h ..) ?_;exact hf a ha
theorem MH(hf:gc up){g:Nat}(hg:g<up.length)(iE:k<g)(ZW:up.getD g 0=g)(ii:up.getD k 0=k):
 ∀{a:Nat},a<up.length->root (up.set g k) a=if root up a=g then k else root up a:=by
 have Kj:=Jz hf hg iE;intro a;induction a using xj with
 |ind a ih=>
  intro ha;by_cases h:a=g
  ·subst h
   refine aa (lb ZW ..) ?_;refine aa (if_pos rfl ..) ?_;have e:(up.set a k).getD a 0=k:=by(refine aa (vj hg ..) ?_;refine aa (if_pos rfl ..) ?_;rfl)
   refine aQ (qc Kj (by simpa using ha) (by refine aa ((e) ..) ?_;exact Qk iE) ..) ?_;refine aa (e ..) ?_;exact lb (by(refine aa (vj hg ..) ?_;refine aa (if_neg (qW iE) ..) ?_);exact ii)
  ·have e:(up.set g k).getD a 0=up.getD a 0:=by(refine aa (vj hg ..) ?_;refine aa (if_neg h ..) ?_;rfl)
   by_cases h2:up.getD a 0=a
   ·(refine aa (lb h2 ..) ?_;refine aa (if_neg h ..) ?_;refine aa (lb (by refine aa ((e) ..) ?_;exact h2) ..) ?_;rfl)
   ·have h3:=hf a ha
    refine aQ (qc Kj (by simpa using ha) (by refine aa ((e) ..) ?_;exact h2) ..) ?_;refine aa (e ..) ?_;refine aQ (qc hf ha h2 ..) ?_;exact ih _ (uL h2 h3) (qU ha h3)
theorem CO(hf:gc up):gc (up++[up.length]):=by
 intro a ha;rw[bS]at ha;simp only[dX,jx]at ha;refine aa (da ..) ?_;refine aa (nK ..) ?_;by_cases h:a<up.length
 ·(refine aa (if_pos h ..) ?_;refine aQ (da ..) ?_);exact hf a h
 ·refine aa (if_neg h ..) ?_
  have:a=up.length:=G5 ha h;subst this;simp
theorem CS{l:List Nat}{x d:Nat}(h:a<l.length):(l++[x]).getD a d=l.getD a d:=by
 refine aa (da ..) ?_;refine aa (nK ..) ?_;refine aa (if_pos h ..) ?_;refine aa (da ..) ?_;rfl
theorem getD_last{l:List Nat}{x d:Nat}:(l++[x]).getD l.length d=x:=by
 (refine aa (da ..) ?_;refine aa (nK ..) ?_;refine aa (if_neg (BZ) ..) ?_);simp
theorem MG(hf:gc up):∀{a:Nat},a<up.length->root (up++[up.length]) a=root up a:=by
 intro a;induction a using xj with
 |ind a ih=>
  intro ha;have e:(up++[up.length]).getD a 0=up.getD a 0:=CS ha;by_cases h2:up.getD a 0=a
  ·(refine aa (lb h2 ..) ?_;refine aa (lb (by refine aa ((e) ..) ?_;exact h2) ..) ?_;rfl)
  ·have h3:=hf a ha
   refine aQ (qc (CO hf) (by simp;exact nY ha) (by refine aa ((e) ..) ?_;exact h2) ..) ?_;refine aa (e ..) ?_;refine aQ (qc hf ha h2 ..) ?_;exact ih _ (uL h2 h3) (qU ha h3)
theorem aet:root (up++[up.length]) up.length=up.length:=lb getD_last
noncomputable def jR:Nat->List Nat->Nat
 |_,[]=>0
 |i,x::xs=>(i - x)+jR (i+1) xs
noncomputable def gY(up:List Nat):Nat:=jR 0 up
theorem ad5:∀{xs ys:List Nat} {i:Nat},jR i (xs++ys)=jR i xs+jR (i+xs.length) ys:=by
 intro xs;induction xs with
 |nil=>
  intro ys i;simp[jR]
 |cons x xs ih=>
  intro ys i;refine aa (cA ..) ?_;rewrite[jR];rewrite[jR];refine aa (ih ..) ?_;refine aa (dX ..) ?_;refine aa ((show i+1+xs.length=i+(xs.length+1) by exact G6) ..) ?_;exact Ql
theorem ad8:gY (up++[up.length])=gY up:=by
 unfold gY;refine aa (ad5 ..) ?_;simp[jR]
theorem Mu:∀{xs:List Nat} {i g k:Nat},g<xs.length->xs.getD g 0=i+g->k<i+g->jR i (xs.set g k)>=jR i xs+1
 |[],_,_,_,h,_,_=>by simp at h
 |x::xs,i,0,k,h,e,hk=>by
  simp only[bh,jR];have:x=i:=by exact e
  exact Qm hk this
 |x::xs,i,g+1,k,h,e,hk=>by
  simp only[bh,jR]
  have:=Mu (xs:=xs) (i:=i+1) (g:=g) (k:=k) (by simpa using h) (by rw[FT]at e;refine aa (e ..) ?_;exact G7) (Qn hk);exact Qo this
theorem Mv{g:Nat}(hg:g<up.length)(e:up.getD g 0=g)(hk:k<g):gY up+1<=gY (up.set g k):=
 Mu hg (by refine aa (e ..) ?_;exact Qq) (Qr hk)
theorem ad6:∀{xs:List Nat} {i:Nat},i+xs.length<=16->jR i xs<=16*xs.length:=by
 intro xs;induction xs with
 |nil=>
  intro _ _;exact bR rfl
 |cons x xs ih=>
  intro i h;simp only[dX]at h;simp only[jR,dX];exact Qt h (ih (Qs h))
theorem ad7(h:up.length<=16):gY up<=256:=by
 unfold gY;exact Qw h (ad6 (xs:=up) (i:=0) (Qu h))
end
structure j6(ops:List (Str×List Nat))(ps:List (Nat×Nat))(R:Nat->Nat->Prop):Prop where
 refl:∀a,R a a
 symm:∀a b,R a b->R b a
 trans:∀a b c,R a b->R b c->R a c
 pr:∀p∈ps,R p.1 p.2
 cg:∀(n m:Nat) a b,ops[n]? =ae a->ops[m]? =ae b->a.1=b.1->a.2.length=b.2.length->(∀i,i<a.2.length->R (a.2.getD i 0) (b.2.getD i 0))->R n m
noncomputable def my(ops:List (Str×List Nat)):List Nat:=ops.flatMap (·.2)
structure Inv(σ:St)(ps:List (Nat×Nat))(E:List Nat):Prop where
 fo:gc σ.up
 tK:σ.ops.length<=16
 EX:σ.up.length<=σ.ops.length
 dz:∀(n:Nat) nd,σ.ops[n]? =ae nd->(∀k∈nd.2,k<n)/\nd.2.length<=2
 nodup:σ.ops.Nodup
 i4:σ.bx.length=σ.up.length
 lR:∀r,r<σ.up.length->σ.up.getD r 0=r->∀n,n∈σ.bx.getD r []↔n<σ.up.length/\root σ.up n=r
 rN:∀r,r<σ.up.length->σ.up.getD r 0=r->(σ.bx.getD r []).Nodup
 ot:∀r,(σ.bx.getD r []).length<=16
 q0:∀r,r<σ.up.length->σ.up.getD r 0=r->∃x,bc σ.ab r=ae x
 kO:∀r x,bc σ.ab r=ae x->r<σ.up.length/\σ.up.getD r 0=r/\x<σ.al.length
 yg:∀r r' x,bc σ.ab r=ae x->bc σ.ab r'=ae x->r=r'
 sT:σ.ab.length<=σ.up.length+gY σ.up
 qo:∀(n:Nat) nd k,n<σ.up.length->σ.ops[n]? =ae nd->k∈nd.2->n∈us σ (root σ.up k)
 mI:∀r n,n∈us σ r->n<σ.up.length
 qq:∀r,(us σ r).length<=(my σ.ops).countP λk=>decide (root σ.up k=r)
 wv:∀n∈E,n<σ.up.length
 ez:σ.dc.length<=gY σ.up+ps.length
 fz:σ.dO.length<=gY σ.up
 mz:σ.merged.length<=gY σ.up
 pU:∀key m,bc σ.known key=ae m->∃nd,σ.ops[m]? =ae nd/\m<σ.up.length/\nd.1=key.1/\key.2.map (root σ.up)=nd.2.map (root σ.up)/\∀k∈key.2,k<σ.up.length
 lQ:σ.known.length+E.length<=σ.up.length+32*gY σ.up
 k8:∀(n:Nat) nd,n<σ.up.length->σ.ops[n]? =ae nd->n∈E\/∃m,bc σ.known (canon σ.up nd)=ae m/\root σ.up m=root σ.up n
 lc:∀R,j6 σ.ops ps R->∀a,a<σ.up.length->R a (root σ.up a)
 pj:∀p∈ps,root σ.up p.1=root σ.up p.2
 pv:∀p∈ps,p.1<σ.up.length/\p.2<σ.up.length
theorem ab3:∀{ops:List (Str×List Nat)},(∀nd∈ops,nd.2.length<=2)->(my ops).length<=2*ops.length:=by
 intro ops;induction ops with
 |nil=>
  intro _;exact bR rfl
 |cons nd ops ih=>
  intro h
  have:=ih λx hx=>h x (cI _ hx);unfold my at this⊢
  (refine aa (xa ..) ?_;refine aa (bS ..) ?_;refine aa (dX ..) ?_);exact Qx this (h nd ca)
section
variable{E:List Nat}(I:Inv σ ps E)
include I
theorem Inv.n:σ.up.length<=16:=dC I.EX I.tK
theorem Inv.p:gY σ.up<=256:=ad7 I.n
theorem Inv.nG(r:Nat):(us σ r).length<=32:=by
 have h1:=I.qq r
 have h3:=ab3 (ops:=σ.ops) λnd bv=>by
  refine aM (nM bv) ?_;intro n hn;exact(I.dz n nd hn).2
 exact Qy h1 FM h3 I.tK
theorem Inv.iG{n:Nat}(hn:n<σ.up.length)(e:σ.ops[n]? =ae nd)(hk:k∈nd.2):k<σ.up.length:=gO ((I.dz n nd e).1 k hk) hn
end
end
section
theorem ww:∀(n:Nat) (l:List Nat),l.Nodup->(∀x∈l,x<n)->l.length<=n
 |0,[],_,_=>bj 0
 |0,x::l,_,h=>absurd (h x ca) (QC)
 |n+1,l,hn,h=>by
  by_cases hm:n∈l
  ·have h1:=ww n (l.erase n) (hn.erase n) λx hx=>by
    have h3:x≠n:=λe=>by subst e;exact(List.Nodup.not_mem_erase hn) hx
    exact G8 (h x (List.mem_of_mem_erase hx)) h3
   have h3:0<l.length:=List.length_pos_of_mem hm;exact QE h1 (List.length_erase_of_mem hm)
  ·have h1:=ww n l hn λx hx=>by
    have h3:x≠n:=λe=>hm (e▸hx);exact G8 (h x hx) h3
   exact x7 h1
theorem yS{α:Type}{l:List α}{x d:α}(hi:i<l.length):(l.set i x).getD j d=if j=i then x else l.getD j d:=by
 refine aa (da ..) ?_;refine aa (uj ..) ?_;refine aa (da ..) ?_;by_cases h:i=j
 ·subst h;simp[hi]
 ·(refine aa (if_neg h ..) ?_;refine aa (if_neg (jz h) ..) ?_;rfl)
theorem ti{α:Type}{l:List α}{x d:α}(h:a<l.length):(l++[x]).getD a d=l.getD a d:=by
 refine aa (da ..) ?_;refine aa (nK ..) ?_;refine aa (if_pos h ..) ?_;refine aa (da ..) ?_;rfl
theorem th{α:Type}{l:List α}{x d:α}:(l++[x]).getD l.length d=x:=by
 (refine aa (da ..) ?_;refine aa (nK ..) ?_;refine aa (if_neg (BZ) ..) ?_);simp
theorem Xm(l:List Nat)(up wO:List Nat){g:Nat}(iE:k≠g)(h:∀x∈l,root wO x=if root up x=g then k else root up x):
 (l.countP λx=>decide (root wO x=k))=(l.countP λx=>decide (root up x=k))+l.countP λx=>decide (root up x=g):=by
 induction l with
 |nil=>rfl
 |cons x l ih=>
  refine aa (wY ..) ?_;refine aa (wY ..) ?_;refine aa (wY ..) ?_;refine aa ((ih λy hy=>h y (cI _ hy)) ..) ?_;refine aa (h x ca ..) ?_;by_cases h1:root up x=g
  ·have h2:¬root up x=k:=λe=>iE (e.symm.trans h1)
   simp only[h1,if_pos,decide_true];have h3:¬g=k:=λe=>iE e.symm;simp[h3];exact QF
  ·refine aa (if_neg h1 ..) ?_
   by_cases h2:root up x=k
   ·simp only[h2,decide_true,if_pos]
    simp[iE];exact QG
   ·simp[h1,h2]
theorem Xl(l:List Nat)(up wO:List Nat){g:Nat}(hk:r≠k)(hg:r≠g)(h:∀x∈l,root wO x=if root up x=g then k else root up x):
 (l.countP λx=>decide (root wO x=r))=l.countP λx=>decide (root up x=r):=by
 refine N5 λx hx=>?_;refine aa (h x hx ..) ?_;by_cases h1:root up x=g
 ·refine aa (if_pos h1 ..) ?_
  simp only[decide_eq_true_eq];exact⟨λe=>absurd e.symm hk,λe=>absurd (e.symm.trans h1) hg⟩
 ·(refine aa (if_neg h1 ..) ?_;rfl)
theorem j6.mono{R:Nat->Nat->Prop}(c:j6 ops eJ R)(h:∀p∈ps,p∈eJ):j6 ops ps R:=⟨c.refl,c.symm,c.trans,λp hp=>c.pr p (h p hp),c.cg⟩
theorem LX(h:k∈my ops):∃(n:Nat) (nd:Str×List Nat),ops[n]? =ae nd/\k∈nd.2:=by
 unfold my at h;refine ay (Os.mp h) ?_;intro nd h1 h2;refine aM (nM h1) ?_;intro n hn;exact⟨n,nd,hn,h2⟩
section
variable{E:List Nat}{g:Nat}{e:PV}
theorem af4(I:Inv σ ps E)(iE:k≠g)(r:Nat):us (σ.join k g e) r=if r=k then us σ k++us σ g else if r=g then[]else us σ r:=by
 refine(?_:(match bc (dput (fg σ.ab g) k σ.al.length) r with|some x=>(σ.al++[us σ k++us σ g]).getD x []|none=>[])=_)
 (rewrite[je];rewrite[CB])
 by_cases h1:r=k
 ·(refine aa (if_pos h1 ..) ?_;refine aa (if_pos h1 ..) ?_);exact th
 ·(refine aa (if_neg h1 ..) ?_;refine aa (if_neg h1 ..) ?_)
  by_cases h2:r=g
  ·(refine aa (if_pos h2 ..) ?_;refine aa (if_pos h2 ..) ?_;rfl)
  ·(refine aa (if_neg h2 ..) ?_;refine aa (if_neg h2 ..) ?_)
   unfold us;cases hx:bc σ.ab r with
   |none=>rfl
   |some x=>exact ti (I.kO r x hx).2.2
theorem Ln{up:List Nat}{g:Nat}(hf:gc up)(ha:a<up.length)(hb:b<up.length)(h:(k=root up a/\g=root up b)\/(k=root up b/\g=root up a)):(k<up.length/\up.getD k 0=k)/\g<up.length/\up.getD g 0=g:=by
 have h1:root up a<up.length/\up.getD (root up a) 0=root up a:=⟨fK hf ha,lh hf ha⟩
 have h2:root up b<up.length/\up.getD (root up b) 0=root up b:=⟨fK hf hb,lh hf hb⟩
 rcases h with⟨rfl,rfl⟩|⟨rfl,rfl⟩
 ·exact⟨h1,h2⟩
 ·exact⟨h2,h1⟩
theorem Lh(I:Inv σ ps E)(aZ:σ.ops.length=σ.up.length)(ha:a<σ.up.length)(hb:b<σ.up.length)(dJ:root σ.up a≠root σ.up b)(gn:∀p∈eJ,p∈ps\/p=(a,b))(aaS:∀p∈ps,p∈eJ)(mw:ps.length<=eJ.length)
 (hR:∀R,j6 σ.ops eJ R->R a b)(ek:k=min (root σ.up a) (root σ.up b))(eg:g=max (root σ.up a) (root σ.up b)):Inv (σ.join k g e) eJ (E++us σ g):=by
 refine aK (EL dJ ek eg) ?_;intro bo ii;clear ek eg dJ;have iE:k≠g:=dN bo
 have vO:=Ln I.fo ha hb ii
 have hk:=vO.1.1
 have tk:=vO.1.2
 have hg:=vO.2.1
 have tg:=vO.2.2;clear vO;have kZ:(σ.join k g e).up=σ.up.set g k:=rfl;have hlen:(σ.join k g e).up.length=σ.up.length:=by(refine aa (kZ ..) ?_;refine aa (qA ..) ?_;rfl)
 have ji:(σ.join k g e).ops=σ.ops:=rfl;have zg:(σ.join k g e).bx=σ.bx.set k (σ.bx.getD k []++σ.bx.getD g []):=rfl;have R:∀{x:Nat},x<σ.up.length->root (σ.join k g e).up x=if root σ.up x=g then k else root σ.up x:=λhx=>MH I.fo hg bo tg tk hx;have top:∀{r:Nat},r<σ.up.length->((σ.join k g e).up.getD r 0=r↔r≠g/\σ.up.getD r 0=r):=by
  intro r hr;refine aa (kZ ..) ?_;refine aa (vj hg ..) ?_;by_cases h:r=g
  ·refine aa (if_pos h ..) ?_;constructor
   ·intro h2;exact QH bo h h2
   ·intro h2;exact absurd h h2.1
  ·refine aa (if_neg h ..) ?_;exact⟨λh2=>⟨h,h2⟩,λh2=>h2.2⟩
 have vL:gY σ.up+1<=gY (σ.join k g e).up:=Mv hg tg bo
 have vQ:=af4 (e:=e) I iE;have lM:∀r x,bc (σ.join k g e).ab r=ae x->(r=k/\x=σ.al.length)\/(r≠k/\r≠g/\bc σ.ab r=ae x):=by
  intro r x h;have h':bc (dput (fg σ.ab g) k σ.al.length) r=ae x:=h;rw[je,CB]at h';by_cases h1:r=k
  ·rw[if_pos h1]at h';exact .inl ⟨h1,(mQ h').symm⟩
  ·rw[if_neg h1]at h'
   by_cases h2:r=g
   ·rw[if_pos h2]at h';exact ns h'
   ·rw[if_neg h2]at h';exact .inr ⟨h1,h2,h'⟩
 have tm:(σ.join k g e).al.length=σ.al.length+1:=by show(σ.al++[_]).length=_;exact bS
 have eqv:∀{x y:Nat},x<σ.up.length->y<σ.up.length->root σ.up x=root σ.up y->root (σ.join k g e).up x=root (σ.join k g e).up y:=by
  intro x y hx hy h;(refine aa (R hx ..) ?_;refine aa (R hy ..) ?_;refine aa (h ..) ?_;rfl)
 have rr:∀{x:Nat},x<σ.up.length->root (σ.join k g e).up (root σ.up x)=root (σ.join k g e).up x:=by
  intro x hx;exact eqv (fK I.fo hx) hx (wD I.fo hx)
 have zc:(us σ g).length<=32:=I.nG g;refine Inv.mk (Jz I.fo hg bo) I.tK (by refine aa (hlen ..) ?_;exact I.EX) I.dz I.nodup ?_ ?_ ?_ ?_ ?_ ?_ ?_ ?_ ?_ ?_ ?_ ?_ ?_ ?_ ?_ ?_ ?_ ?_ ?_ ?_ ?_
 ·(refine aa (zg ..) ?_;refine aa (qA ..) ?_;refine aa (hlen ..) ?_);exact I.i4
 ·intro r hr ht n
  rw[hlen]at hr⊢;refine aK ((top hr).mp ht) ?_;intro h1 h2;refine aa (zg ..) ?_;refine aa (yS (by refine aa ((I.i4) ..) ?_;exact hk) ..) ?_;by_cases h:r=k
  ·(refine aa (if_pos h ..) ?_;rewrite[d8];rewrite[I.lR k hk tk n];rewrite[I.lR g hg tg n];refine aa (h ..) ?_)
   constructor
   ·rintro(⟨h3,h4⟩|⟨h3,h4⟩)
    ·refine⟨h3,?_⟩;(refine aa (R h3 ..) ?_;refine aa (h4 ..) ?_;refine aa (if_neg iE ..) ?_;rfl)
    ·refine⟨h3,?_⟩;(refine aa (R h3 ..) ?_;refine aa (if_pos h4 ..) ?_;rfl)
   ·(intro aj;refine aK aj ?_;clear aj;intro h3 h4)
    rw[R h3]at h4;by_cases h5:root σ.up n=g
    ·exact .inr ⟨h3,h5⟩
    ·rw[if_neg h5]at h4;exact .inl ⟨h3,h4⟩
  ·(refine aa (if_neg h ..) ?_;rewrite[I.lR r hr h2 n])
   constructor
   ·(intro aj;refine aK aj ?_;clear aj;intro h3 h4)
    refine⟨h3,?_⟩;(refine aa (R h3 ..) ?_;refine aa (h4 ..) ?_;refine aa (if_neg h1 ..) ?_;rfl)
   ·(intro aj;refine aK aj ?_;clear aj;intro h3 h4)
    rw[R h3]at h4;by_cases h5:root σ.up n=g
    ·rw[if_pos h5]at h4;exact absurd h4.symm h
    ·rw[if_neg h5]at h4;exact⟨h3,h4⟩
 ·intro r hr ht
  rw[hlen]at hr;refine aK ((top hr).mp ht) ?_;intro h1 h2;refine aa (zg ..) ?_;refine aa (yS (by refine aa ((I.i4) ..) ?_;exact hk) ..) ?_;by_cases h:r=k
  ·(refine aa (if_pos h ..) ?_;rewrite[l7])
   refine⟨I.rN k hk tk,I.rN g hg tg,λx hx y hy CN=>?_⟩;subst CN;exact iE (((I.lR k hk tk x).mp hx).2.symm.trans ((I.lR g hg tg x).mp hy).2)
  ·refine aa (if_neg h ..) ?_;exact I.rN r hr h2
 ·intro r
  refine aa (zg ..) ?_;refine aa (yS (by refine aa ((I.i4) ..) ?_;exact hk) ..) ?_;by_cases h:r=k
  ·refine aa (if_pos h ..) ?_
   refine ww 16 _ ?_ ?_
   ·rewrite[l7]
    refine⟨I.rN k hk tk,I.rN g hg tg,λx hx y hy CN=>?_⟩;subst CN;exact iE (((I.lR k hk tk x).mp hx).2.symm.trans ((I.lR g hg tg x).mp hy).2)
   ·intro x hx
    have hn:=I.n;rcases d8.mp hx with h3|h3
    ·have:=((I.lR k hk tk x).mp h3).1;exact BE hn this
    ·have:=((I.lR g hg tg x).mp h3).1;exact BE hn this
  ·refine aa (if_neg h ..) ?_;exact I.ot r
 ·intro r hr ht
  rw[hlen]at hr;refine aK ((top hr).mp ht) ?_;intro h1 h2;refine(?_:∃x,bc (dput (fg σ.ab g) k σ.al.length) r=ae x)
  (rewrite[je];rewrite[CB])
  by_cases h:r=k
  ·refine aa (if_pos h ..) ?_;exact⟨_,rfl⟩
  ·(refine aa (if_neg h ..) ?_;refine aa (if_neg h1 ..) ?_);exact I.q0 r hr h2
 ·intro r x h
  refine aa (hlen ..) ?_;refine aa (tm ..) ?_;rcases lM r x h with⟨rfl,rfl⟩|⟨h1,h2,h3⟩
  ·exact⟨hk,(top hk).mpr ⟨iE,tk⟩,xV⟩
  ·(refine eB (I.kO r x h3) ?_;intro h4 h5 h6)
   exact⟨h4,(top h4).mpr ⟨h2,h5⟩,nY h6⟩
 ·intro r r' x h h'
  rcases lM r x h with⟨rfl,rfl⟩|⟨h1,h2,h3⟩<;>rcases lM r' _ h' with⟨e1,e2⟩|⟨mi,pM,JR⟩
  ·exact e1.symm
  ·have:=(I.kO r' _ JR).2.2;exact QI this
  ·have:=(I.kO r x h3).2.2;exact xW e2 this
  ·exact I.yg r r' x h3 JR
 ·have h1:(σ.join k g e).ab.length<=σ.ab.length+1:=dC (n6 _ _ _) (ON (um _ _))
  refine aa (hlen ..) ?_;exact QJ vL h1 I.sT
 ·intro n nd x hn bv hx
  rw[hlen]at hn
  have h1:=I.qo n nd x hn bv hx
  (rewrite[vQ];refine aa (R (I.iG hn bv hx) ..) ?_)
  by_cases h:root σ.up x=g
  ·(refine aa (if_pos h ..) ?_;refine aa (if_pos rfl ..) ?_;rewrite[d8]);rw[h]at h1;exact .inr h1
  ·refine aa (if_neg h ..) ?_
   by_cases h2:root σ.up x=k
   ·(refine aa (if_pos h2 ..) ?_;rewrite[d8]);rw[h2]at h1;exact .inl h1
   ·(refine aa (if_neg h2 ..) ?_;refine aa (if_neg h ..) ?_);exact h1
 ·intro r n h
  refine aa (hlen ..) ?_;rw[vQ]at h;by_cases h1:r=k
  ·rw[if_pos h1,d8]at h
   exact h.elim (I.mI _ _) (I.mI _ _)
  ·rw[if_neg h1]at h
   by_cases h2:r=g
   ·rw[if_pos h2]at h;simp at h
   ·rw[if_neg h2]at h;exact I.mI _ _ h
 ·intro r
  refine aa (ji ..) ?_;rewrite[vQ];have gJ:∀x∈my σ.ops,root (σ.join k g e).up x=if root σ.up x=g then k else root σ.up x:=by
   intro x hx;refine cZ (LX hx) ?_;intro n nd h1 h2;have h3:n<σ.up.length:=by refine aQ (aZ ..) ?_;exact(bJ.mp h1).1
   exact R (I.iG h3 h1 h2)
  by_cases h1:r=k
  ·(refine aa (if_pos h1 ..) ?_;refine aa (h1 ..) ?_;refine aa (bS ..) ?_;refine aa (Xm _ _ _ iE gJ ..) ?_)
   have:=I.qq k;have:=I.qq g;exact G9 (by assumption) this
  ·refine aa (if_neg h1 ..) ?_
   by_cases h2:r=g
   ·refine aa (if_pos h2 ..) ?_;exact cJ _
   ·(refine aa (if_neg h2 ..) ?_;refine aa (Xl _ _ _ h1 h2 gJ ..) ?_);exact I.qq r
 ·intro n hn
  refine aa (hlen ..) ?_;rcases d8.mp hn with h|h
  ·exact I.wv n h
  ·exact I.mI _ _ h
 ·have h1:(σ.join k g e).dc.length=σ.dc.length+1:=by show(σ.dc++[e]).length=_;exact bS
  exact QK mw vL h1 I.ez
 ·have h1:(σ.join k g e).dO.length=σ.dO.length+1:=by show(σ.dO++[_]).length=_;exact bS
  exact Ha vL h1 I.fz
 ·have h1:(σ.join k g e).merged.length=σ.merged.length+1:=by show(σ.merged++[_]).length=_;exact bS
  exact Ha vL h1 I.mz
 ·intro key m h
  refine Au (I.pU key m h) ?_;intro nd h1 h2 h3 h4 h5;refine⟨nd,h1,by refine aa (hlen ..) ?_;exact h2,h3,?_,λx hx=>by refine aa (hlen ..) ?_;exact h5 x hx⟩;have e1:key.2.map (root (σ.join k g e).up)=(key.2.map (root σ.up)).map (root (σ.join k g e).up):=by
   refine aa (cB ..) ?_;exact iO λx hx=>(rr (h5 x hx)).symm
  have e2:nd.2.map (root (σ.join k g e).up)=(nd.2.map (root σ.up)).map (root (σ.join k g e).up):=by
   refine aa (cB ..) ?_;exact iO λx hx=>(rr (I.iG h2 h1 hx)).symm
  refine aa (e1 ..) ?_;refine aa (e2 ..) ?_;refine aa (h4 ..) ?_;rfl
 ·have:=I.lQ
  have h1:(σ.join k g e).known=σ.known:=rfl
  (refine aa (h1 ..) ?_;refine aa (hlen ..) ?_;refine aa (bS ..) ?_);exact QL vL zc this
 ·intro n nd hn bv
  rw[hlen]at hn;rcases I.k8 n nd hn bv with h|⟨m,h1,h2⟩
  ·exact .inl (mP _ h)
  ·by_cases h3:∃x∈nd.2,root σ.up x=g
   ·(refine ay h3 ?_;clear h3;intro x hx h4)
    have:=I.qo n nd x hn bv hx;rw[h4]at this;exact .inl (qC _ this)
   ·refine .inr ⟨m,?_,?_⟩
    ·have:canon (σ.join k g e).up nd=canon σ.up nd:=by
      unfold canon
      congr 1
      refine iO λx hx=>?_;refine aa (R (I.iG hn bv hx) ..) ?_;refine aa ((if_neg λh=>h3 ⟨x,hx,h⟩) ..) ?_;rfl
     refine aa (this ..) ?_;exact h1
    ·(refine cb (I.pU _ _ h1) ?_;intro aj aB h6 aS)
     exact eqv h6 hn h2
 ·intro S hS x hx
  rw[hlen]at hx
  have h0:=I.lc S (hS.mono aaS);refine aa (R hx ..) ?_;by_cases h:root σ.up x=g
  ·refine aa (if_pos h ..) ?_
   have h1:=h0 x hx;rw[h]at h1;refine hS.trans _ _ _ h1 ?_
   have h2:=hS.trans _ _ _ (hS.symm _ _ (h0 a ha)) (hS.trans _ _ _ (hR S hS) (h0 b hb));rcases ii with⟨h3,h4⟩|⟨h3,h4⟩
   ·(refine aa (h3 ..) ?_;refine aa (h4 ..) ?_);exact hS.symm _ _ h2
   ·(refine aa (h3 ..) ?_;refine aa (h4 ..) ?_);exact h2
  ·refine aa (if_neg h ..) ?_;exact h0 x hx
 ·intro p hp
  rcases gn p hp with h|h
  ·exact eqv (I.pv p h).1 (I.pv p h).2 (I.pj p h)
  ·(refine aa (h ..) ?_;refine aa (R ha ..) ?_;refine aa (R hb ..) ?_);exact Lb ii bo
 ·intro p hp
  refine aa (hlen ..) ?_;rcases gn p hp with h|h
  ·exact I.pv p h
  ·refine aa (h ..) ?_;exact⟨ha,hb⟩
end
end
section
section
variable{E:List Nat}{g n:Nat}{e:PV}
theorem Inv.drop(I:Inv σ ps (n::E))(h:∀nd,σ.ops[n]? =ae nd->n∈E\/∃m,bc σ.known (canon σ.up nd)=ae m/\root σ.up m=root σ.up n):Inv σ ps E:=
 {I with
  wv:=λm hm=>I.wv m (cI _ hm)
  lQ:=by have:=I.lQ;rw[dX]at this;exact QM this
  k8:=λm nd hm bv=>by
   rcases I.k8 m nd hm bv with h1|h1
   ·rcases cH.mp h1 with rfl|h2
    ·exact h nd bv
    ·exact .inl h2
   ·exact .inr h1}
theorem IS(hf:gc σ.up)(h:∀k∈nd.2,k<σ.up.length):(canon σ.up nd).2.map (root σ.up)=nd.2.map (root σ.up):=by
 unfold canon;refine aa (cB ..) ?_;exact iO λx hx=>wD hf (h x hx)
theorem Inv.known(I:Inv σ ps (n::E))(bv:σ.ops[n]? =ae nd)(h0:bc σ.known (canon σ.up nd)=ai):Inv {σ with known:=dput σ.known (canon σ.up nd) n} ps E:=by
 have hn:n<σ.up.length:=I.wv n ca;exact{I with
  wv:=λm hm=>I.wv m (cI _ hm)
  lQ:=by
   have h1:=I.lQ;rw[dX]at h1;refine(?_:(dput σ.known (canon σ.up nd) n).length+E.length<=σ.up.length+32*gY σ.up);exact QN h1 (n6 σ.known (canon σ.up nd) n)
  pU:=λkey m h=>by
   have h:bc (dput σ.known (canon σ.up nd) n) key=ae m:=h;rw[je]at h;by_cases h1:key=canon σ.up nd
   ·rw[if_pos h1]at h
    injection h with h;subst h h1;refine⟨nd,bv,hn,rfl,IS I.fo λk hk=>I.iG hn bv hk,λx hx=>?_⟩;refine ay (bH.mp hx) ?_;rintro y hy rfl;exact fK I.fo (I.iG hn bv hy)
   ·rw[if_neg h1]at h
    exact I.pU key m h
  k8:=λm lS hm dp=>by
   refine(?_:m∈E\/∃m',bc (dput σ.known (canon σ.up nd) n) (canon σ.up lS)=ae m'/\root σ.up m'=root σ.up m);rewrite[je];rcases I.k8 m lS hm dp with h1|⟨m',h1,h2⟩
   ·rcases cH.mp h1 with rfl|h2
    ·rw[bv]at dp
     injection dp with dp;subst dp;refine aa (if_pos rfl ..) ?_;exact .inr ⟨m,rfl,rfl⟩
    ·exact .inl h2
   ·refine .inr ⟨m',?_,h2⟩
    rewrite[if_neg ?_]
    ·exact h1
    ·intro h3;rw[h3,h0]at h1;exact ns h1}
theorem acq(I:Inv σ ps E){nm:Str×List Nat}(hn:n<σ.up.length)(hm:m<σ.up.length)(bv:σ.ops[n]? =ae nd)(tz:σ.ops[m]? =ae nm)(h1:nm.1=nd.1)(h2:nm.2.map (root σ.up)=nd.2.map (root σ.up)):
 ∀R,j6 σ.ops ps R->R m n:=by
 intro R hR;have hl:nm.2.length=nd.2.length:=by simpa using congrArg sm h2
 refine hR.cg m n nm nd tz bv h1 hl λi hi=>?_;have e3:root σ.up nm.2[i]=root σ.up (nd.2[i]'(eE hl hi)):=by
  have:=congrArg (λl=>l[i]?) h2;simp only[dB,bV hi,bV (show i<nd.2.length by exact eE hl hi),mc]at this;injection this
 refine aa (((getD_get hi)) ..) ?_;refine aa (((getD_get (eE hl hi))) ..) ?_
 have r1:=I.lc R hR _ (I.iG hm tz (ly hi));rw[e3]at r1;exact hR.trans _ _ _ r1 (hR.symm _ _ (I.lc R hR _ (I.iG hn bv (ly (show i<nd.2.length by exact eE hl hi)))))
end
noncomputable def mu(σ:St):Nat:=(256 - gY σ.up)*33+σ.wait.length
section
variable{X:Fx}{v:List aF}
theorem aeY{n:Nat}(hz:σ.known.length<aI)(h1:∀m,bc σ.known nd=ae m->Q (nat m) (av fd σ tl v t))(h2:bc σ.known nd=ai->Q (nat n) (av fd {σ with known:=dput σ.known nd n} tl v t)):
 io .li (.ak (.s 16)) [bk nd,nat n] (av fd σ tl v t) Q:=by
 refine aa (LH JL ..) ?_;rewrite[wb];rewrite[aw];rewrite[Ja];refine⟨by unfold gW;rewrite[bp];exact hz,?_⟩;cases h:bc σ.known nd with
 |none=>
  simp only[F6]
  (rewrite[Jd];refine aa (aeI ..) ?_);exact h2 h
 |some m=>exact h1 m h
end
inductive SE(fd:aF)(σ:St)(tl v t:List aF)(ps:List (Nat×Nat))(k:Nat)(ρ:aJ)(H:HP):Prop
 |mk (d0:ρ=[ae hH]) (τ:St) (he:H=av fd τ tl v t) (hI:Inv τ ps τ.wait) (h1:τ.ops=σ.ops) (h2:τ.up.length=σ.up.length) (h3:mu τ=k) (h4:τ.dd=σ.dd) (h5:τ.db=σ.db)
section
variable{X:Fx}(C:Ok X){v:List aF}
include C
theorem LJ{n:Nat}(I:Inv σ ps (n::σ.wait))(aZ:σ.ops.length=σ.up.length)(eG:ps.length<=100):bC X 4 .oq [hH,nat n] (av fd σ tl v t) (λp H'=>p=.none/\∃τ,H'=av fd τ tl v t/\Inv τ ps τ.wait/\τ.ops=σ.ops/\τ.up.length=σ.up.length/\mu τ<=mu σ/\τ.dd=σ.dd/\τ.db=σ.db):=by
 have hL:aI=1000000:=rfl;have hn:n<σ.up.length:=I.wv n ca;refine aM (⟨_,bV (ie aZ hn)⟩:∃nd,σ.ops[n]? =ae nd) ?_;intro nd bv
 have hN:=I.n
 have hP:=I.p
 have mv:=I.lQ;rw[dX]at mv
 have tv:=I.dz n nd bv;have kZ:σ.up.length<=aI:=gR hL hN;refine eu (M:=Eg) C.O (C.ck .oq (λh=>Fn.noConfusion h)) rfl λQz bu=>?_
 (with_reducible refine aD ?_;simp only[Eg,ce,bB,ci,cu,cA,bX,aE,bE,bZ,aR,bh,fD,aC,a0,aT,aG,gs,gz,aw,de,ch,VY])
 refine⟨MM (.inr rfl) JL,fX rfl,(L8 C I.fo bv (λk hk=>I.iG hn bv hk) kZ (B2 hn kZ) (by omega)).dt ?_⟩;refine aeY (QO hL hN hP mv) (λm hm=>?_) (λh0=>?_)
 ·(refine Au (I.pU _ _ hm) ?_;intro nm tz fj e1 e2 e3)
  (with_reducible refine aD ?_;simp only[aE,be,w_ite,cc,ef,de,aC,a0,aT,aG,gs,gz,aw])
  refine⟨fX rfl,((nf C I.fo fj kZ).le (by omega)).dt ?_⟩;refine⟨fX rfl,((nf C I.fo hn kZ).le (by omega)).dt ?_⟩;simp only[yA];by_cases h:root σ.up m=root σ.up n
  ·simp only[h,decide_true,nJ,dF,↓dy,if_false]
   with_reducible refine bu _ _ ?_
   exact⟨rfl,σ,rfl,I.drop λlS dp=>by rw[bv]at dp;injection dp with dp;subst dp;exact .inr ⟨m,hm,h⟩,rfl,rfl,bj _,rfl,rfl⟩
  ·simp only[h,decide_false,Ay,↓fw,if_true]
   (with_reducible refine aD ?_;simp only[aE,be,fq,de,aC,a0,aT,eQ,fZ,aG,gs,gz,aw])
   refine⟨fX rfl,by exact bR rfl,?_⟩;have CH:nm.2.map (root σ.up)=nd.2.map (root σ.up):=by
    refine aQ (e2 ..) ?_;exact IS I.fo λk hk=>I.iG hn bv hk
   have Di:=I.fz
   have Dq:=I.mz
   have za:=I.ez
   have rq:=I.sT;refine((Li C (rs:=.tup [.str "like"]) I.fo fj hn I.i4 kZ (xX hL hP Dq) (λi j=>by have:=I.ot i;have:=I.ot j;exact Hb hL (by assumption) this) (fK I.fo fj) (fK I.fo hn) (Hc eG hL hP za) (xX hL hP Di) (λr hr=>?_) (Hd hL hN hP rq)
    (λi j=>by have:=I.nG i;have:=I.nG j;exact He hL (by assumption) this) (λi=>by have:=I.nG i;exact QQ hL hN hP mv this)).le (by omega)).mono ?_
   ·have ht:r<σ.up.length/\σ.up.getD r 0=r:=by
     rcases hr with rfl|rfl
     ·exact⟨fK I.fo fj,lh I.fo fj⟩
     ·exact⟨fK I.fo hn,lh I.fo hn⟩
    refine aM (I.q0 r ht.1 ht.2) ?_;intro x hx;exact⟨x,hx,(I.kO r x hx).2.2⟩
   ·rintro p H' (⟨h1,_⟩|⟨k,g,ek,eg,_,rfl,rfl⟩)
    ·exact absurd h1 h
    ·have J:=Lh (e:=pJ m n (.tup [.str "like"])) I aZ fj hn h (eJ:=ps) (λp hp=> .inl hp) (λp hp=>hp) (bj _) (acq I hn fj bv tz e1 CH) ek eg
     refine aK (EL h ek eg) ?_;intro bo ii;clear ek eg;refine eB (Ln I.fo fj hn ii) ?_;intro aj zc tg;refine aK aj ?_;clear aj;intro kU tk;have hR:∀{x:Nat},x<σ.up.length->root (σ.join k g (pJ m n (.tup [.str "like"]))).up x=if root σ.up x=g then k else root σ.up x:=λhx=>MH I.fo zc bo tg tk hx;refine⟨rfl,?_⟩;with_reducible refine bu _ _ ?_
     refine⟨rfl,_,rfl,J.drop λlS dp=>?_,rfl,?_,?_,rfl,rfl⟩
     ·have dp:σ.ops[n]? =ae lS:=dp
      rw[bv]at dp;injection dp with dp;subst dp;by_cases h3:∃x∈nd.2,root σ.up x=g
      ·(refine ay h3 ?_;clear h3;intro x hx h4)
       have:=I.qo n nd x hn bv hx;rw[h4]at this;exact .inl (qC _ this)
      ·refine .inr ⟨m,?_,?_⟩
       ·have:canon (σ.join k g (pJ m n (.tup [.str "like"]))).up nd=canon σ.up nd:=by
         unfold canon
         congr 1
         refine iO λx hx=>?_;refine aa (hR (I.iG hn bv hx) ..) ?_;refine aa ((if_neg λh=>h3 ⟨x,hx,h⟩) ..) ?_;rfl
        refine aa (this ..) ?_;exact hm
       ·(refine aa (hR fj ..) ?_;refine aa (hR hn ..) ?_)
        exact Lb ii bo
     ·show(σ.up.set g k).length=_;(refine aa (qA ..) ?_;rfl)
     ·unfold mu
      have h5:(σ.join k g (pJ m n (.tup [.str "like"]))).wait.length=σ.wait.length+(us σ g).length:=by
       show(σ.wait++us σ g).length=_;(refine aa (bS ..) ?_;rfl)
      refine aa (h5 ..) ?_;exact QR (Mv zc tg bo) J.p (I.nG g)
 ·(with_reducible refine aD ?_;simp only[aE,be,w_ite,cc,ef,de,aC,a0,aT,aG,gs,gz,aw])
  refine⟨fX rfl,((nf (σ:={σ with known:=dput σ.known (canon σ.up nd) n}) C I.fo hn kZ).le (by omega)).dt ?_⟩;refine⟨fX rfl,((nf (σ:={σ with known:=dput σ.known (canon σ.up nd) n}) C I.fo hn kZ).le (by omega)).dt ?_⟩;simp only[yA,decide_true,nJ,dF,↓dy,if_false];with_reducible refine bu _ _ ?_
  exact⟨rfl,_,rfl,I.known bv h0,rfl,rfl,bj _,rfl,rfl⟩
theorem ae0(I:Inv σ ps σ.wait)(aZ:σ.ops.length=σ.up.length)(eG:ps.length<=100):bC X 5 .settle [hH] (av fd σ tl v t) (λp H'=>p=.none/\∃τ,H'=av fd τ tl v t/\Inv τ ps []/\τ.wait=[]/\τ.ops=σ.ops/\τ.up.length=σ.up.length/\τ.dd=σ.dd/\τ.db=σ.db):=by
 have hL:aI=1000000:=rfl;refine eu (M:=Ew) C.O (C.ck .settle (λh=>Fn.noConfusion h)) rfl λQz bu=>?_
 (with_reducible refine aD ?_;simp only[Ew,ce,bB,ci,cu,cA,bX,aE,be,wQ,cc,cT,aC,cM,a0,aT,ch,aG])
 refine⟨SE fd σ tl v t ps,⟨_,rfl,σ,rfl,I,rfl,rfl,rfl,rfl,rfl⟩,?_⟩
 (intro k;intro ρ;intro H;intro aj;rcases aj with⟨rfl,τ,rfl,J,e1,e2,rfl,w1,w2⟩)
 simp only[gz,vY,aw,Ch,jO vl,bQ,IY];refine⟨QS hL J.lQ J.n J.p,?_⟩;by_cases h:τ.wait=[]
 ·simp only[h,jx,jV,decide_false,dF,↓dy,if_false]
  with_reducible refine bu _ _ ?_
  exact⟨rfl,τ,rfl,h▸J,h,e1,e2,w1,w2⟩
 ·have zn:0<τ.wait.length:=Oo.mpr h
  simp only[zn,decide_true,↓fw,if_true];refine eC (⟨τ.wait.dropLast,τ.wait.getLast h,(N8 h).symm⟩:∃ws n,τ.wait=ws++[n]) ?_;intro ws n hw;have XS:(av fd τ tl v t).get (.s 18)=ae (.list (nats ws++[nat n])):=by(refine aa (vl ..) ?_;refine aa (hw ..) ?_;refine aa (ow ..) ?_);rfl
  (with_reducible refine aD ?_;simp only[aE,be,fq,de,aC,a0,aT,fD,ch,aG,gz,aw,Ch])
  refine⟨fX rfl,jn (by exact .inr (.inr rfl)) vl,?_⟩;refine aa (ad4 XS ..) ?_;refine aa (MT ..) ?_;have J2:Inv {τ with wait:=ws} ps (n::ws):=
   {J with
    wv:=λm hm=>J.wv m (by refine aa (hw ..) ?_;simp at hm⊢;exact hm.symm)
    lQ:=by have:=J.lQ;rw[hw]at this;simp at this⊢;exact QT this
    k8:=λm nd hm bv=>by
     rcases J.k8 m nd hm bv with h1|h1
     ·rw[hw]at h1;simp at h1⊢;exact .inl h1.symm
     ·exact .inr h1}
  refine(LJ C J2 (by rw[<-e2]at aZ;rw[<-e1]at aZ;exact aZ) eG).mono ?_
  (intro p;intro H';intro aj;refine aK aj ?_;clear aj;rintro rfl aS;refine ay aS ?_;clear aS;rintro ω rfl cO;refine t6 cO ?_;clear cO;intro J3 e3 e4 e5 w3 w4)
  refine⟨rfl,?_⟩;refine⟨mu ω,?_,rfl,ω,rfl,J3,e3.trans e1,e4.trans e2,rfl,w3.trans w1,w4.trans w2⟩;have:mu ({τ with wait:=ws}:St)+1=mu τ:=by unfold mu;refine aa (hw ..) ?_;simp;exact QU
  exact QV e5 this
end
end
section
noncomputable def cP:List Str:=["var0","var1","var2","c","var","var01","var-1","lam","app","f"]
noncomputable def ro:List Str:=["v","a","r","0","1","2","c","-","l","m","p","f"]
theorem WY:∀op∈cP,∀x∈op.cps.toList.map (λc=>(⟨#[c]⟩:Str)),x∈ro:=by decide+kernel
theorem YY:∀x∈ro,A4 x=aq:=by decide+kernel
theorem YW:∀x∈ro,(AV "()[]{},:" x 0 (Str.length "()[]{},:") 1).isEmpty=ag:=by decide+kernel
theorem oy:∀op∈cP,PV.clean (.str op)=ag:=by decide+kernel
theorem adR:∀op∈cP,op≠"":=by decide+kernel
theorem adQ:∀op∈cP,op.length<=5:=by decide+kernel
theorem adP:∀op∈cP,(match op.cps[0]? with|some c=>decide ((⟨#[c]⟩:Str)∈ro)|none=>aq)=ag:=by decide+kernel
theorem YV:∀x∈ro,PV.clean (.str x)=ag:=by decide+kernel
theorem YX:∀x∈ro,x≠"?":=by decide+kernel
theorem adO(op:Str)(h:op∈cP):∃c,op.cps[0]? =ae c/\(⟨#[c]⟩:Str)∈ro:=by
 have:=adP op h;cases e:op.cps[0]? with
 |none=>rw[e]at this;exact ff this
 |some c=>rw[e]at this;exact⟨c,rfl,by simpa using this⟩
section
variable{X:Fx}(C:Ok X)
include C
theorem abH(ho:op∈cP):bC X 1 .rI [.str op] H (λp H'=>p=.bool ag/\H'=H):=by
 have hL:aI=1000000:=rfl;refine jf (M:=D8) C.O (C.ck .rI (λh=>Fn.noConfusion h)) rfl ?_
 (with_reducible refine aD ?_;simp only[D8,ce,bB,ci,cu,cA,bX,aE,be,cf,kD,NO,NN,cc,IX,fr,aC,fx,aT,gM,gs,gz,aG,aw,W9,fZ])
 refine⟨jd (oy op ho) (by decide+kernel) (.inl (cJ _)),?_⟩;have e1:(PV.str op).eqv (.str "")=aq:=by
  cases h:(PV.str op).eqv (.str "")with
  |false=>rfl
  |true=>
   have:=(PV.iC _ _ (oy op ho) (by decide+kernel)).mp h;injection this with this;exact absurd this (adR op ho)
 refine aa (e1 ..) ?_;simp only[Ay,La,aw];refine aa (if_pos (by rfl) ..) ?_;refine⟨trivial,?_⟩;refine n4 (c:=λU=>aq) (f:=id) (λx hx Q hq=>?_) (λx hx h=>by exact ff h) ?_ trivial _ (λy=>rfl) (λcG=>?_)
 ·unfold chars at hx
  refine ay (bH.mp hx) ?_;rintro c hc rfl
  have hg:=WY op ho ⟨#[c]⟩ (bH.mpr ⟨c,hc,rfl⟩);simp only[aR,bh,qt,kD,l0,lZ,cc,fZ,aC,aG,gs,gz,aw,fD,aT];refine⟨trivial,?_⟩;simp only[acG,YY _ hg];simp only[qj,show((xo==dh)=aq)from rfl,↓fw,if_true,Cv,in_str,YW _ hg];exact⟨trivial,hq⟩
 ·unfold chars
  (rewrite[bp];refine aa (jx ..) ?_)
  have e:op.cps.toList.length=op.length:=by rfl
  exact QX hL (adQ op ho) e
 ·have e2:(si (λU=>aq) (chars op))=[]:=by simp
  refine aa (e2 ..) ?_;simp only[ci,kI];refine⟨_,rfl,by exact bR rfl,?_⟩;have e3:(PV.lst []).eqv (.lst [])=ag:=(PV.iC _ _ rfl rfl).mpr rfl;refine aa (e3 ..) ?_;exact⟨jd rfl rfl (.inl (by decide)),by trivial,by trivial⟩
theorem ael{v:List aF}(ho:op∈cP):bC X 2 .qb [hB,.str op] (av fd σ tl v t) (λp H'=>p=.none/\H'=av fd σ tl v t):=by
 refine jf (M:=Ev) C.O (C.ck .qb (λh=>Fn.noConfusion h)) rfl ?_
 (with_reducible refine aD ?_;simp only[Ev,ce,bB,ci,cu,cA,bX,aE,be,w_ite,kD,l0,lZ,ef,cc,fZ,aC,dM,cT,aG,gs,gz,aw,t8,x_call,a0,aT])
 refine⟨trivial,(abH C ho).dt ?_⟩;refine ay (adO op ho) ?_;intro c hc hq;simp only[qj,show((xo==dh)=aq)from rfl,nJ,↓fw,if_true,abr];refine⟨by decide,?_⟩;refine aa ((show i8 0=0 from rfl) ..) ?_;refine aa (hc ..) ?_;simp only[aw,IX];have vC:PV.clean (.str ⟨#[c]⟩)=ag:=by
  exact YV _ hq
 have e1:(PV.str ⟨#[c]⟩).eqv (.str "?")=aq:=by
  cases h:(PV.str ⟨#[c]⟩).eqv (.str "?")with
  |false=>rfl
  |true=>
   have:=(PV.iC _ _ vC (by decide+kernel)).mp h;injection this with this;exact absurd this (YX _ hq)
 refine⟨jd vC (by decide+kernel) (.inl (cJ _)),?_⟩;refine aa (e1 ..) ?_;simp
end
end
section
theorem XM{K V:Type}[DecidableEq K]{xs:List (K×V)}{k:K}{v:V}(h:bc xs k=ai):dput xs k v=xs++[(k,v)]:=by
 unfold dput
 (rewrite[if_neg];rfl)
 intro h2;refine ay (mN.mp h2) ?_;intro x hx e;unfold bc at h;rw[OS,FQ]at h;exact h x hx e
theorem adD(ops:List (Str×List Nat))(nd:Str×List Nat):iq (ops++[nd])=iq ops++[(fm nd,nat ops.length)]:=by
 unfold iq;refine aa (bS ..) ?_;refine aa (dX ..) ?_;refine aa (jx ..) ?_;refine aa (AJ ..) ?_;refine aa (iN ..) ?_;refine aa (bB ..) ?_;refine aa (ci ..) ?_
 congr 1
 ·refine iO λi hi=>?_
  refine aa (ti (er.mp hi) ..) ?_;rfl
 ·(refine aa (th ..) ?_;rfl)
theorem XB{K V:Type}[DecidableEq K]{f:Nat->K}{g:Nat->V}{k:K}:∀{n:Nat},((∀i,i<n->f i≠k)/\bc ((bw n).map λi=>(f i,g i)) k=ai)\/∃i,i<n/\f i=k/\bc ((bw n).map λi=>(f i,g i)) k=ae (g i):=by
 intro n;cases h:bc ((bw n).map λi=>(f i,g i)) k with
 |none=>
  refine .inl ⟨λi hi e=>?_,rfl⟩;unfold bc at h;rw[OS,FQ]at h;exact h (f i,g i) (bH.mpr ⟨i,er.mpr hi,rfl⟩) (by simpa using e)
 |some x=>
  unfold bc at h;rw[i9]at h;refine ay h ?_;clear h;intro aj h1 h2;rcases aj with⟨a,b⟩
  refine ay (bH.mp (FW h1)) ?_;intro i hi e;injection e with e1 e2;subst e1 e2;exact .inr ⟨i,er.mp hi,by simpa using(FR h1),by(refine aQ (h2 ..) ?_;rfl)⟩
theorem XD(ops:List (Str×List Nat))(nd:Str×List Nat):(nd∉ops/\bc (iq ops) (fm nd)=ai)\/∃i,ops[i]? =ae nd/\bc (iq ops) (fm nd)=ae (nat i):=by
 rcases XB (f:=λi=>fm (ops.getD i default)) (g:=nat) (k:=fm nd) (n:=ops.length)with⟨h1,h2⟩|⟨i,h1,h2,h3⟩
 ·refine .inl ⟨λhm=>?_,h2⟩
  refine aM (nM hm) ?_;intro i hi;refine h1 i ((bJ.mp hi).1) ?_
  (refine aa (da ..) ?_;refine aa (hi ..) ?_);rfl
 ·refine .inr ⟨i,?_,h3⟩
  have:=wo h2;rw[da,bV h1]at this
  (refine aa (bV h1 ..) ?_;refine aQ (this ..) ?_);rfl
theorem K7:∀l:List Int,intsOf (cL l)=ae l:=by
 intro l;induction l with
 |nil=>
  exact rfl
 |cons k l ih=>
  refine(?_:(match intOf (.int k),intsOf (cL l)with|some i,ae is=>ae (i::is)|_,_=>ai)=_);refine aa (ih ..) ?_;rfl
theorem YI{Q:Fl->aJ->HP->Prop}(I:Nat->aJ->HP->Prop)(R:PV->aJ->HP->Prop)(xs:List PV)(hs:∀i x ρ H (Q':Fl->aJ->HP->Prop),xs[i]? =ae x->I i ρ H->(∀aU H',I (i+1) aU H'->Q' .next aU H')->(∀p aU H',R p aU H'->Q' (.ret p) aU H')->asg x ρ H λkE H1=>body kE H1 Q')(hc:∀i ρ H,I i ρ H->dj H)(hn:∀ρ H,I xs.length ρ H->Q .next ρ H)(hr:∀p ρ H,R p ρ H->Q (.ret p) ρ H):∀(ys:List PV) (i:Nat) (ρ:aJ) (H:HP),xs.drop i=ys->i<=xs.length->I i ρ H->forR asg body dj ys ρ H Q:=by
 intro ys;induction ys with
 |nil=>
  intro i ρ H e hi h;have hl:xs.length<=i:=by simpa using e
  have:i=xs.length:=BF hi hl;subst this;exact hn ρ H h
 |cons y ys ih=>
  intro i ρ H e hi h;have hl:i<xs.length:=by
   rcases AO i xs.length with h1|h1
   ·exact h1
   ·rw[FN h1]at e;exact jw (noConfusion_of_Nat N6 e)
  have hd:=qz hl;rw[e]at hd;injection hd with h1 h2;rewrite[forR];refine hs i y ρ H _ (by(refine aa (h1 ..) ?_;refine aa (bV hl ..) ?_;rfl)) h (λaU H' h'=>?_) (λp aU H' h'=>hr p aU H' h');exact⟨hc _ _ _ h',ih (i+1) aU H' h2.symm hl h'⟩
theorem iZ{Q:Fl->aJ->HP->Prop}(I:Nat->aJ->HP->Prop)(R:PV->aJ->HP->Prop)
 (h0:I 0 ρ H)(hs:∀i x ρ H (Q':Fl->aJ->HP->Prop),xs[i]? =ae x->I i ρ H->(∀aU H',I (i+1) aU H'->Q' .next aU H')->(∀p aU H',R p aU H'->Q' (.ret p) aU H')->asg x ρ H λkE H1=>body kE H1 Q')
 (hc:∀i ρ H,I i ρ H->dj H)(hn:∀ρ H,I xs.length ρ H->Q .next ρ H)(hr:∀p ρ H,R p ρ H->Q (.ret p) ρ H):forR asg body dj xs ρ H Q:=
 YI I R xs hs hc hn hr xs 0 ρ H rfl (cJ _) h0
section
variable{X:Fx}(C:Ok X){v:List aF}{K:HP->Prop}
theorem aeL{ys:List Int}:(av fd σ tl v t).set (.list (cL ys)) (.s 7)=av fd {σ with dd:=ys} tl v t:=rfl
theorem aeM{ys:List Int}:(av fd σ tl v t).set (.list (cL ys)) (.s 8)=av fd {σ with db:=ys} tl v t:=rfl
theorem DL{a b:List Int}:cL (a++b)=cL a++cL b:=iN
theorem DM{a:Int}:cL [a]=[.int a]:=rfl
theorem Wy{n:Nat}:fQ X n .tupleOf aY [.tup xs] H Q=(xs.length<=aI/\Q (.tup xs) H):=rfl
theorem uY{n:Nat}:fQ X n .tupleOf aY [.lst xs] H Q=(xs.length<=aI/\Q (.tup xs) H):=rfl
theorem uZ{ys:List PV}:iY .Add aY (.tup xs) (.tup ys) H Q=(xs.length+ys.length<=aI/\Q (.tup (xs++ys)) H):=by
 exact propext ⟨λh=>h.2,λh=>⟨rfl,h⟩⟩
theorem Cm{ys:List PV}:iY .Add aY (.lst xs) (.lst ys) H Q=eb aY (xs++ys) H Q:=by
 exact propext ⟨λh=>h.2,λh=>⟨rfl,h⟩⟩
theorem abw{k:Bool->Prop}:cK .In (bk nd) (.ak (.s 6)) (av fd σ tl v t) k=k (bc (iq σ.ops) (fm nd)).isSome:=by
 simp only[Cv,aby CU,wb,aw]
theorem abm{p:PV}(h:bc (iq σ.ops) (fm nd)=ae p)(hq:Q p (av fd σ tl v t)):eV (.ak (.s 6)) (bk nd) (av fd σ tl v t) Q:=by
 refine aa (abo CU ..) ?_;rewrite[wb];rewrite[aw];refine aa (h ..) ?_;rewrite[aw];exact hq
theorem tT(h:nd.2.length<aI):qe (bk nd) (ae 1) ai aY H Q=Q (.tup (nats nd.2)) H:=by
 unfold bk;refine(?_:((1<=1/\1<=(PV.str nd.1::nats nd.2).length/\(PV.str nd.1::nats nd.2).length<=aI)/\Q (.tup (nats nd.2)) H)=_);refine aa (dX ..) ?_;refine aa (bQ ..) ?_;exact propext ⟨λx=>x.2,λx=>⟨⟨bj _,QY,pA h⟩,x⟩⟩
theorem aec(hz:σ.ops.length<aI)(h:bc (iq σ.ops) (fm nd)=ai):jo (.ak (.s 6)) (bk nd) (nat σ.ops.length) (av fd σ tl v t) K=K ((av fd σ tl v t).set (.bL (iq (σ.ops++[nd]))) (.s 6)):=by
 refine aa (aeR CU ..) ?_;rewrite[wb];rewrite[aw];refine aa (XM h ..) ?_;rewrite[adD];exact propext ⟨λx=>x.2,λx=>⟨by unfold iq;simpa using hz,x⟩⟩
theorem VP:((av fd σ tl v t).set (.bL (iq (σ.ops++[nd]))) (.s 6)).set (.list (σ.ops.map bk++[bk nd])) (.s 5)=av fd {σ with ops:=σ.ops++[nd]} tl v t:=
 kY (congrArg (λz=>sH fd z (iq (σ.ops++[nd])) (cL σ.dd) (cL σ.db) (nats σ.up) ((bw σ.bx.length).map λk=> .ak (.l k)) σ.merged σ.dc σ.dO (gW σ.known) (kN σ.ab) (nats σ.wait) tl) (iN (f:=bk) (l₁:=σ.ops) (l₂:=[nd])).symm) rfl rfl rfl rfl
theorem Wx{n:Nat}{l:List Int}:fQ X n .sum aY [.lst (cL l)] H Q=Q (.int l.sum) H:=by
 refine(?_:ok (intsOf (cL l)) (λns=>Q (.int ns.sum) H)=_);rewrite[K7];rfl
theorem Wr{n:Nat}{l:List Int}:fQ X n .max aY [.lst (cL l)] H Q=(l≠[]/\∀m∈l,Q (.int m) H):=by
 refine(?_:ok (intsOf (cL l)) (λns=>ns≠[]/\∀m∈ns,Q (.int m) H)=_);rewrite[K7];rfl
theorem Ck{a b:Int}:iY .Add aY (.int a) (.int b) H Q=Q (.int (a+b)) H:=rfl
theorem KY{ys:List Int}(h:H.get l=ae (.list (cL ys)))(hk:i<ys.length)(hz:ys.length<=aI)(hq:Q (.int (ys.getD i 0)) H):eV (.ak l) (nat i) H Q:=by
 refine aa (nq h (x:=.int (ys.getD i 0)) (map_getD hk) (B2 hk hz) ..) ?_;exact hq
include C
theorem afK{ks:List Nat}(ho:op∈cP)(hk:∀k∈ks,k<σ.ops.length)(gJ:ks.length<=2)(hn:σ.ops.length<=100)(hw:σ.dd.length=σ.ops.length)(hd:σ.db.length=σ.ops.length):
 bC X 3 .take [hB,.str op,.tup (nats ks)] (av fd σ tl v t) (λp H'=>
  (∃i,σ.ops[i]? =ae (op,ks)/\p=nat i/\H'=av fd σ tl v t)\/
  ((op,ks)∉σ.ops/\p=nat σ.ops.length/\∃w d,H'=av fd {σ with ops:=σ.ops++[(op,ks)],dd:=σ.dd++[w],db:=σ.db++[d]} tl v t)):=by
 have hL:aI=1000000:=rfl;refine eu (M:=Ex) C.O (C.ck .take (λh=>Fn.noConfusion h)) rfl λQz bu=>?_
 (with_reducible refine aD ?_;simp only[Ex,ce,bB,ci,cu,cA,bX,aE,bE,bZ,aR,bh,eP,aC,cM,a0,aT,aG,gs,gz,aw,Wy,eQ,uZ])
 refine⟨by exact bR rfl,by refine aa (bQ ..) ?_;exact uN gJ hL,by refine aa (bQ ..) ?_;simp;exact xY gJ hL,?_⟩;have end_:PV.tup (PV.str op::nats ks)=bk (op,ks):=rfl;refine aa (end_ ..) ?_
 (with_reducible refine aD ?_;simp only[aE,w_ite,be,cc,ef,ch,aC,aG,gz,aw,gs,Cf,abw])
 rcases XD σ.ops (op,ks)with⟨h1,h2⟩|⟨i,h1,h2⟩
 ·refine aa (h2 ..) ?_
  simp only[OR,dF,↓dy,if_false]
  (with_reducible refine aD ?_;simp only[aE,fq,de,aC,a0,aT,aG,gs,gz,aw])
  refine⟨zR rfl,(ael C ho).dt ?_⟩;refine⟨rfl,?_⟩
  (with_reducible refine aD ?_;simp only[aE,jr,nI,aC,aG,gs,gz,aw])
  refine aa (tT (by simp;exact BG gJ hL) ..) ?_;simp only[fV,fU,jj,aw];refine iZ (I:=λi ρ H=>(∃q,ρ=[ae hB,ae (.str op),ae (.tup (nats ks)),ae (bk (op,ks)),q,ai,ai])/\H=av fd σ tl v t) (R:=λU U U=>False) ⟨⟨ai,rfl⟩,rfl⟩ ?_ (λi ρ H h=>trivial) ?_ (λp ρ H h=>h.elim)
  ·(intro i;intro x;intro ρ;intro H;intro Q';intro hx;intro aj;refine aK aj ?_;clear aj;intro aB aS;refine aM aB ?_;clear aB;rintro q rfl;rcases aS with rfl;intro cW;intro hr)
   (refine ay (by
     refine ay (bH.mp (eD hx)) ?_;intro k a1 a2;exact⟨k,a1,a2.symm⟩:∃k,k∈ks/\x=nat k) ?_;rintro k cV rfl)
   (simp only[bZ,aR,bh];with_reducible refine aD ?_;simp only[aE,be,w_ite,t8,ef,NM,cM,aC,a0,aT,ch,aG,gz,aw,gs,cT,vY,uW,jO vn,bp,s0,hk k cV,decide_true,nJ,dF,if_false])
   exact⟨trivial,trivial,qV hn hL,cW _ _ ⟨⟨_,rfl⟩,rfl⟩⟩
  ·(intro ρ;intro H;intro aj;refine aK aj ?_;clear aj;intro aB aS;refine aM aB ?_;clear aB;rintro q rfl;rcases aS with rfl)
   (with_reducible refine aD ?_;simp only[aE,bE,nE,aG,gs,gz,aC,aw,ch,cM,a0,aT,uW,jO vn,bp,Cf])
   refine aa (aec (BB hn hL) h2 ..) ?_;refine⟨qV hn hL,?_⟩;have g5:∀{Q:PV->HP->Prop},fP hB .nodes ((av fd σ tl v t).set (.bL (iq (σ.ops++[(op,ks)]))) (.s 6)) Q=Q (.ak (.s 5)) ((av fd σ tl v t).set (.bL (iq (σ.ops++[(op,ks)]))) (.s 6)):=rfl;have JF:((av fd σ tl v t).set (.bL (iq (σ.ops++[(op,ks)]))) (.s 6)).get (.s 5)=ae (.list (σ.ops.map bk)):=rfl
   (with_reducible refine aD ?_;simp only[aE,fq,fD,aC,a0,aT,aG,gs,gz,aw,ch])
   refine aa (g5 ..) ?_;refine⟨jn (by exact .inl rfl) JF,?_⟩;refine aa (j9 JF ..) ?_;refine aa (VP ..) ?_;refine⟨by simp;exact BB hn hL,rfl,?_⟩
   (with_reducible refine aD ?_;simp only[aE,fq,fD,aC,a0,aT,eP,cM,gM,gs,gz,dM,aG,ch,nI,aw,cT,Iz])
   refine⟨jn (by exact .inl rfl) CV,trivial,?_⟩;refine aa (tT (by simp;exact BG gJ hL) ..) ?_;simp only[fV,fU,jj,aw];refine m7 (f:=λp=>match p with|.int i=> .int (σ.dd.getD i.toNat 0)|_=> .none) (λρ H Q h=>h) (λx hx Q hq=>?_) (by refine aa (bQ ..) ?_;exact uN gJ hL) trivial λcG=>?_
   ·(refine ay (bH.mp hx) ?_;rintro k cV rfl)
    simp only[aR,bh,gz,gs,aw,Iz];exact KY CV (by refine aa (hw ..) ?_;exact hk k cV) (by show σ.dd.length<=aI;exact Hf hn hw hL) hq
   ·refine⟨_,rfl,?_⟩
    have e1:(nats ks).map (λp=>match p with|.int i=>PV.int (σ.dd.getD i.toNat 0)|_=> .none)=cL (ks.map λk=>σ.dd.getD k 0):=by
     unfold nats cL;(refine aa (cB ..) ?_;refine aa (cB ..) ?_);rfl
    refine aa (e1 ..) ?_;simp only[Wx,Ck];refine aa (j9 CV ..) ?_;refine aQ (DM ..) ?_;refine aQ (DL ..) ?_;refine aa (aeL ..) ?_;refine⟨by unfold cL;rewrite[bp];show σ.dd.length<aI;exact Hg hn hw hL,rfl,?_⟩
    (with_reducible refine aD ?_;simp only[aE,fq,fD,aC,a0,aT,eP,cM,fr,fx,cT,gM,gs,gz,dM,aG,ch,nI,aw,Iy])
    refine⟨jn (by exact .inl rfl) CW,trivial,?_⟩;refine aa (tT (by simp;exact BG gJ hL) ..) ?_;simp only[fV,fU,jj,aw];refine m7 (f:=λp=>match p with|.int i=> .int (σ.db.getD i.toNat 0)|_=> .none) (λρ H Q h=>h) (λx hx Q hq=>?_) (by refine aa (bQ ..) ?_;exact uN gJ hL) trivial λcG=>?_
    ·(refine ay (bH.mp hx) ?_;rintro k cV rfl)
     simp only[aR,bh,gz,gs,aw,Iy];exact KY CW (by refine aa (hd ..) ?_;exact hk k cV) (by show σ.db.length<=aI;exact Hf hn hd hL) hq
    ·refine⟨_,rfl,?_⟩
     have e2:(nats ks).map (λp=>match p with|.int i=>PV.int (σ.db.getD i.toNat 0)|_=> .none)=cL (ks.map λk=>σ.db.getD k 0):=by
      unfold nats cL;(refine aa (cB ..) ?_;refine aa (cB ..) ?_);rfl
     refine aa (e2 ..) ?_;simp only[Cm,fx,Ck];refine aQ (DM ..) ?_;refine aQ (DL ..) ?_;refine aa (Wr ..) ?_;refine⟨by refine aa (hL ..) ?_;decide,by unfold cL;rewrite[bp];simp;exact Hh gJ hL,by simp,λm hm=>?_⟩;refine aa (Ck ..) ?_;refine aa (j9 CW ..) ?_;refine aQ (DM ..) ?_;refine aQ (DL ..) ?_;refine aa (aeM ..) ?_;refine⟨by unfold cL;rewrite[bp];show σ.db.length<aI;exact Hg hn hd hL,rfl,?_⟩
     (with_reducible refine aD ?_;simp only[aE,be,cf,eP,aC,cT,on,cM,a0,aT,ch,aG,gz,aw,uW,jO vn,bp])
     refine aa (yw (by simp) ..) ?_;simp only[bS,dX,jx];exact⟨QZ hn hL,bu _ _ (.inr ⟨h1,by rfl,_,_,rfl⟩)⟩
 ·refine aa (h2 ..) ?_
  simp only[Option.isSome_some,↓fw,if_true]
  (with_reducible refine aD ?_;simp only[aE,be,cf,dM,aC,aG,gs,gz,aw,ch,Cf])
  exact abm h2 (bu _ _ (.inl ⟨i,h1,rfl,rfl⟩))
end
end
section
theorem getElem?_push{α:Type}{l:List α}{x:α}(h:i<l.length):(l++[x])[i]? =l[i]? :=by(refine aa (nK ..) ?_;refine aa (if_pos h ..) ?_;rfl)
theorem JH{α:Type}{l:List α}{x:α}:(l++[x])[l.length]? =ae x:=by exact nL
set_option tactic.hygienic true in
theorem Vt{E:List Nat}(I:Inv σ ps E)(aZ:σ.ops.length=σ.up.length)(lM:nd∉σ.ops)(hk:∀k∈nd.2,k<σ.up.length)(dR:nd.2.length<=2)(cm:σ.ops.length<16)
 (e1:τ.ops=σ.ops++[nd])(e2:τ.up=σ.up++[σ.up.length])(e3:τ.bx=σ.bx++[[σ.up.length]])(e4:τ.merged=σ.merged)(e5:τ.dc=σ.dc)(e6:τ.dO=σ.dO)(e7:τ.known=σ.known)
 (e8:τ.ab=dput σ.ab σ.up.length σ.al.length)(e9:τ.al.length=σ.al.length+1)
 (hu:∀r,us τ r=if r=σ.up.length then[]else us σ r++(if r∈nd.2.map (root σ.up)then[σ.up.length]else[])):Inv τ ps (σ.up.length::E):=by
 have hlen:τ.up.length=σ.up.length+1:=by refine aa (e2 ..) ?_;exact bS
 have R:∀{x:Nat},x<σ.up.length->root τ.up x=root σ.up x:=λhx=>by refine aa (e2 ..) ?_;exact MG I.fo hx
 have Rn:root τ.up σ.up.length=σ.up.length:=by refine aa (e2 ..) ?_;exact aet
 have top:∀{r:Nat},r<τ.up.length->τ.up.getD r 0=r->r=σ.up.length\/(r<σ.up.length/\σ.up.getD r 0=r):=by
  intro r hr ht;rw[hlen]at hr;by_cases h:r=σ.up.length
  ·exact .inl h
  ·rw[e2,CS (sR hr h)]at ht;exact .inr ⟨sR hr h,ht⟩
 have hp:gY τ.up=gY σ.up:=by refine aa (e2 ..) ?_;exact ad8
 have B5:∀r x,bc τ.ab r=ae x->(r=σ.up.length/\x=σ.al.length)\/(r≠σ.up.length/\bc σ.ab r=ae x):=by
  intro r x h;rw[e8,je]at h;by_cases h1:r=σ.up.length
  ·rw[if_pos h1]at h;exact .inl ⟨h1,(mQ h).symm⟩
  ·rw[if_neg h1]at h;exact .inr ⟨h1,h⟩
 have Mm:∀{n:Nat} {a},τ.ops[n]? =ae a->n<σ.up.length->σ.ops[n]? =ae a:=by
  intro n a h hn;rw[e1,getElem?_push (ie aZ hn)]at h;exact h
 have WX:∀{n:Nat} {a:Str×List Nat},n<σ.up.length->σ.ops[n]? =ae a->canon τ.up a=canon σ.up a:=by
  intro n a hn ha;unfold canon
  congr 1
  exact iO λx hx=>R (I.iG hn ha hx)
 refine Inv.mk ?_ ?_ ?_ ?_ ?_ ?_ ?_ ?_ ?_ ?_ ?_ ?_ ?_ ?_ ?_ ?_ ?_ ?_ ?_ ?_ ?_ ?_ ?_ ?_ ?_ ?_
 ·refine aa (e2 ..) ?_;exact CO I.fo
 ·(refine aa (e1 ..) ?_;refine aa (bS ..) ?_);simp;exact Q1 cm
 ·(refine aa (hlen ..) ?_;refine aa (e1 ..) ?_;refine aa (bS ..) ?_);simp;exact BH aZ
 ·intro n a h
  have hn:n<(σ.ops++[nd]).length:=by rw[e1]at h;exact(bJ.mp h).1
  rw[bS]at hn;simp only[dX,jx]at hn;by_cases h1:n<σ.ops.length
  ·rw[e1,getElem?_push h1]at h;exact I.dz n a h
  ·have h2:n=σ.ops.length:=G5 hn h1
   subst h2;rw[e1,JH]at h;injection h with h;subst h;refine aa (aZ ..) ?_;exact⟨hk,dR⟩
 ·(refine aa (e1 ..) ?_;rewrite[l7])
  exact⟨I.nodup,by exact qD _ _,λa ha b hb fH=>by simp at hb;subst hb fH;exact lM ha⟩
 ·(refine aa (e3 ..) ?_;refine aa (hlen ..) ?_;refine aa (bS ..) ?_;refine aa (I.i4 ..) ?_);rfl
 ·intro r hr ht n
  refine aa (hlen ..) ?_;rcases top hr ht with h|⟨h1,h2⟩
  ·subst h
   refine aa (e3 ..) ?_;refine aQ (I.i4 ..) ?_;refine aa (th ..) ?_;refine aa (I.i4 ..) ?_;constructor
   ·intro h;simp at h;subst h;exact⟨xV,Rn⟩
   ·(intro aj;refine aK aj ?_;clear aj;intro h3 h4)
    by_cases h5:n<σ.up.length
    ·rw[R h5]at h4
     have:=fK I.fo h5;omega
    ·simp;exact uO h3 h5
  ·(refine aa (e3 ..) ?_;refine aa (ti (by refine aa ((I.i4) ..) ?_;exact h1) ..) ?_;rewrite[I.lR r h1 h2 n])
   constructor
   ·(intro aj;refine aK aj ?_;clear aj;intro h3 h4);exact⟨nY h3,by refine aa (R h3 ..) ?_;exact h4⟩
   ·(intro aj;refine aK aj ?_;clear aj;intro h3 h4)
    by_cases h5:n<σ.up.length
    ·rw[R h5]at h4;exact⟨h5,h4⟩
    ·have:n=σ.up.length:=uO h3 h5
     subst this;rw[Rn]at h4;exact Q5 h1 h4
 ·intro r hr ht
  rcases top hr ht with h|⟨h1,h2⟩
  ·subst h
   (refine aa (e3 ..) ?_;refine aQ (I.i4 ..) ?_;refine aa (th ..) ?_);exact qD _ _
  ·(refine aa (e3 ..) ?_;refine aa (ti (by refine aa ((I.i4) ..) ?_;exact h1) ..) ?_);exact I.rN r h1 h2
 ·intro r
  refine aa (e3 ..) ?_;by_cases h:r<σ.bx.length
  ·refine aa (ti h ..) ?_;exact I.ot r
  ·by_cases h2:r=σ.bx.length
   ·subst h2;refine aa (th ..) ?_;exact bR rfl
   ·(refine aa (da ..) ?_;refine aa (iM (by simp;exact Q6 h h2) ..) ?_);exact bR rfl
 ·intro r hr ht
  refine aa (e8 ..) ?_;rcases top hr ht with h|⟨h1,h2⟩
  ·exact⟨_,by(rewrite[je];refine aa (if_pos h ..) ?_;rfl)⟩
  ·(refine aM (I.q0 r h1 h2) ?_;intro x hx)
   exact⟨x,by(rewrite[je];refine aa (if_neg (qW h1) ..) ?_);exact hx⟩
 ·intro r x h
  rcases B5 r x h with⟨h1,h2⟩|⟨h1,h2⟩
  ·subst h1 h2;exact⟨Hi hlen,by refine aa (e2 ..) ?_;exact getD_last,Hi e9⟩
  ·(refine eB (I.kO r x h2) ?_;intro h3 h4 h5)
   exact⟨pw hlen h3,by(refine aa (e2 ..) ?_;refine aa (CS h3 ..) ?_);exact h4,pw e9 h5⟩
 ·intro r r' x h h'
  rcases B5 r x h with⟨h1,h2⟩|⟨h1,h2⟩<;>rcases B5 r' x h' with⟨h3,h4⟩|⟨h3,h4⟩
  ·exact Hj h1 h3
  ·have:=(I.kO r' x h4).2.2;exact xW h2 this
  ·have:=(I.kO r x h2).2.2;exact xW h4 this
  ·exact I.yg r r' x h2 h4
 ·have h1:=n6 σ.ab σ.up.length σ.al.length
  (refine aa (e8 ..) ?_;refine aa (hlen ..) ?_;refine aa (hp ..) ?_);exact Q7 h1 I.sT
 ·intro n a k hn ha ze
  rw[hlen]at hn;by_cases h:n<σ.up.length
  ·have pP:=Mm ha h
   have kU:=I.iG h pP ze;refine aa (R kU ..) ?_;rewrite[hu];refine aa (if_neg (qW (fK I.fo kU)) ..) ?_;exact mP _ (I.qo n a k h pP ze)
  ·have h2:n=σ.up.length:=uO hn h
   subst h2;rw[e1,<-aZ,JH]at ha;injection ha with ha;subst ha
   have kU:=hk k ze;refine aa (R kU ..) ?_;rewrite[hu];refine aa (if_neg (qW (fK I.fo kU)) ..) ?_;refine aa (if_pos (bH.mpr ⟨k,ze,rfl⟩) ..) ?_;exact qC _ ca
 ·intro r n h
  refine aa (hlen ..) ?_;rw[hu]at h;split at h
  ·simp at h
  ·rcases d8.mp h with h1|h1
   ·have:=I.mI _ _ h1;exact nY this
   ·split at h1
    ·simp at h1;exact Hk h1
    ·simp at h1
 ·intro r
  (rewrite[hu];refine aa (e1 ..) ?_)
  have ek:my (σ.ops++[nd])=my σ.ops++nd.2:=by unfold my;simp
  refine aa (ek ..) ?_;refine aa (List.countP_append ..) ?_;have c1:(my σ.ops).countP (λk=>decide (root τ.up k=r))=(my σ.ops).countP λk=>decide (root σ.up k=r):=by
   refine N5 λx hx=>?_;refine cZ (LX hx) ?_;intro n a h1 h2;have h3:n<σ.up.length:=by refine aQ (aZ ..) ?_;exact(bJ.mp h1).1
   refine aa (R (I.iG h3 h1 h2) ..) ?_;rfl
  refine aa (c1 ..) ?_;split
  ·exact bR rfl
  ·refine aa (bS ..) ?_
   have:=I.qq r;split
   ·rename_i hm
    refine ay (bH.mp hm) ?_;intro k cV vE;have:0<nd.2.countP λk=>decide (root τ.up k=r):=List.countP_pos_iff.mpr ⟨k,cV,by refine aa (R (hk k cV) ..) ?_;simpa using vE⟩;simp;exact Q9 (by assumption) this
   ·simp;exact Ra this
 ·intro n hn
  refine aa (hlen ..) ?_;rcases cH.mp hn with h|h
  ·exact Hk h
  ·have:=I.wv n h;exact nY this
 ·(refine aa (e5 ..) ?_;refine aa (hp ..) ?_);exact I.ez
 ·(refine aa (e6 ..) ?_;refine aa (hp ..) ?_);exact I.fz
 ·(refine aa (e4 ..) ?_;refine aa (hp ..) ?_);exact I.mz
 ·intro key m h
  rw[e7]at h;refine Au (I.pU key m h) ?_;intro a h1 h2 h3 h4 h5;refine⟨a,by(refine aa (e1 ..) ?_;refine aa (getElem?_push (ie aZ h2) ..) ?_);exact h1,pw hlen h2,h3,?_,λx hx=>by have:=h5 x hx;exact pw hlen this⟩;have d1:key.2.map (root τ.up)=key.2.map (root σ.up):=iO λx hx=>R (h5 x hx);have d2:a.2.map (root τ.up)=a.2.map (root σ.up):=iO λx hx=>R (I.iG h2 h1 hx);refine aa (d1 ..) ?_;refine aa (d2 ..) ?_;refine aa (h4 ..) ?_;rfl
 ·have:=I.lQ
  (refine aa (e7 ..) ?_;refine aa (hlen ..) ?_;refine aa (hp ..) ?_;refine aa (dX ..) ?_);exact Rb this
 ·intro n a hn ha
  rw[hlen]at hn;by_cases h:n<σ.up.length
  ·have pP:=Mm ha h
   rcases I.k8 n a h pP with h1|⟨m,h1,h2⟩
   ·exact .inl (cI _ h1)
   ·(refine cb (I.pU _ _ h1) ?_;intro aj aB h6 aS)
    exact .inr ⟨m,by(refine aa (e7 ..) ?_;refine aa (WX h pP ..) ?_);exact h1,by(refine aa (R h6 ..) ?_;refine aa (R h ..) ?_);exact h2⟩
  ·have h2:n=σ.up.length:=uO hn h
   subst h2;exact .inl ca
 ·intro S hS a ha
  rw[hlen]at ha;have n8:j6 σ.ops ps S:=⟨hS.refl,hS.symm,hS.trans,hS.pr,λn m a b h1 h2=>hS.cg n m a b (by(refine aa (e1 ..) ?_;refine aa (getElem?_push (bJ.mp h1).1 ..) ?_);exact h1) (by(refine aa (e1 ..) ?_;refine aa (getElem?_push (bJ.mp h2).1 ..) ?_);exact h2)⟩
  by_cases h:a<σ.up.length
  ·refine aa (R h ..) ?_;exact I.lc S n8 a h
  ·have h2:a=σ.up.length:=uO ha h
   subst h2;refine aa (Rn ..) ?_;exact hS.refl _
 ·intro p il
  (refine aa (R (I.pv p il).1 ..) ?_;refine aa (R (I.pv p il).2 ..) ?_);exact I.pj p il
 ·intro p il
  exact Rc hlen (I.pv p il)
end
section
structure eM(X:Fx):Prop extends Ok X where
 Fd:∀{n:Nat} {p:PV} {H:HP} {xs:List Nat} {Q:PV->HP->Prop},listOf H p=ae (nats xs)->xs.length<=40->(∀x∈xs,x<16)->(∀ys:List Nat,ys.Nodup->(∀y,y∈ys↔y∈xs)->Q (.lst (nats ys)) H)->qT X n p H Q
 M8:∀{n:Nat} {p:PV} {H:HP} {xs:List (Str×List Nat)} {Q:PV->HP->Prop},listOf H p=ae (xs.map bk)->xs.length<=16->(∀nd∈xs,nd.1∈cP/\nd.2.length<=2/\∀k∈nd.2,k<1000)->(∀ys:List (Str×List Nat),(∀y,y∈ys↔y∈xs)->Q (.lst (ys.map bk)) H)->qT X n p H Q
inductive AI(fd:aF)(σ dg:St)(tl v t:List aF)(op:Str)(ks ys:List Nat)(i:Nat)(ρ:aJ)(H:HP):Prop
 |mk (h:∃q,ρ=[ae hH,ae (.str op),ae (.tup (nats ks)),ae (nat σ.ops.length),q,ai]) (ge:List (List Nat)) (hH:H=av fd {dg with al:=ge} tl v t) (h1:ge.length=σ.al.length+1) (h2:∀r,us {dg with al:=ge} r=us dg r++if r∈ys.take i then[σ.up.length]else[])
section
variable{X:Fx}(C:eM X){v:List aF}
theorem Ao{x:Nat}(h:bc τ.ab r=ae x):us τ r=τ.al.getD x []:=by unfold us;(refine aa (h ..) ?_;rfl)
theorem aea:(av fd σ tl v t).push (.list []) .a=av fd {σ with al:=σ.al++[[]]} tl v t:=My (ys:=[])
include C
theorem Vu{ks:List Nat}(I:Inv σ ps σ.wait)(aZ:σ.ops.length=σ.up.length)(eG:ps.length<=100)(hw:σ.dd.length=σ.ops.length)(hd:σ.db.length=σ.ops.length)(ho:op∈cP)(hk:∀k∈ks,k<σ.up.length)(dR:ks.length<=2)(cm:σ.ops.length<16):
 bC X 5 .add [hH,.str op,.tup (nats ks)] (av fd σ tl v t) (λp H'=>∃τ,H'=av fd τ tl v t/\Inv τ ps τ.wait/\τ.ops.length=τ.up.length/\τ.dd.length=τ.ops.length/\τ.db.length=τ.ops.length/\
  ((∃i,σ.ops[i]? =ae (op,ks)/\p=nat i/\τ.ops=σ.ops)\/(p=nat σ.ops.length/\τ.ops=σ.ops++[(op,ks)]))):=by
 have hL:aI=1000000:=rfl
 have hN:=I.n
 have hP:=I.p;refine eu (M:=DZ) C.O (C.ck .add (λh=>Fn.noConfusion h)) rfl λQz bu=>?_
 (with_reducible refine aD ?_;simp only[DZ,ce,bB,ci,cu,cA,bX,aE,bE,bZ,aR,bh,de,aC,a0,aT,aG,gs,gz,aw,ch,Cg])
 refine⟨zR rfl,((afK C.toOk ho (λk h=>by refine aa (aZ ..) ?_;exact hk k h) dR (Rd cm) hw hd).le (by omega)).mono ?_⟩;rintro p H' (⟨i,hi,rfl,rfl⟩|⟨lM,rfl,w,d,rfl⟩)
 ·have iD:i<σ.up.length:=by refine aQ (aZ ..) ?_;exact(bJ.mp hi).1
  (with_reducible refine aD ?_;simp only[aE,w_ite,be,cc,ef,de,aC,aT,ch,aG,gz,aw,gs,rg])
  refine⟨nv rfl,((Nt C.toOk (Hl aZ cm hL)).le (by omega)).dt ?_⟩;simp only[s0,iD,decide_true,↓fw,if_true]
  (with_reducible refine aD ?_;simp only[aE,be,cf,aG,gs,gz,aC,aw])
  exact bu _ _ ⟨σ,rfl,I,aZ,hw,hd,.inl ⟨i,hi,rfl,rfl⟩⟩
 ·(with_reducible refine aD ?_;simp only[aE,w_ite,be,cc,ef,de,aC,aT,ch,aG,gz,aw,gs,rg])
  refine⟨nv rfl,((Nt (σ:={σ with ops:=σ.ops++[(op,ks)],dd:=σ.dd++[w],db:=σ.db++[d]}) C.toOk (show σ.up.length<=aI by exact Hl aZ cm hL)).le (by omega)).dt ?_⟩;have bo:¬σ.ops.length<σ.up.length:=Re aZ;simp only[s0,bo,decide_false,dF,↓dy,if_false]
  (with_reducible refine aD ?_;simp only[aE,fq,de,aC,aT,ch,aG,gz,aw,rg])
  refine⟨nv rfl,((acV (σ:={σ with ops:=σ.ops++[(op,ks)],dd:=σ.dd++[w],db:=σ.db++[d]}) C.toOk (show σ.up.length<aI by exact Hm aZ cm hL) (show σ.bx.length<aI by refine aa (I.i4 ..) ?_;exact Hm aZ cm hL)).le (by omega)).dt ?_⟩;refine⟨rfl,?_⟩
  (with_reducible refine aD ?_;simp only[aE,bE,nE,aG,gs,gz,aC,aw,ch,fr,jP,aT])
  refine⟨by exact bR rfl,?_⟩;refine aa (aea ..) ?_;refine aa (L4 ..) ?_;simp only[sU];generalize hσ2:({({σ with ops:=σ.ops++[(op,ks)],dd:=σ.dd++[w],db:=σ.db++[d]}:St).make with al:=({σ with ops:=σ.ops++[(op,ks)],dd:=σ.dd++[w],db:=σ.db++[d]}:St).make.al++[[]]}:St)=jv;have a1:jv.ab=σ.ab:=by refine aQ (hσ2 ..) ?_;rfl
  have a2:jv.al=σ.al++[[]]:=by refine aQ (hσ2 ..) ?_;rfl
  have a3:jv.up=σ.up++[σ.up.length]:=by refine aQ (hσ2 ..) ?_;rfl
  have a4:jv.bx=σ.bx++[[σ.up.length]]:=by(refine aQ (hσ2 ..) ?_;refine aQ (I.i4 ..) ?_);rfl
  have a5:jv.ops=σ.ops++[(op,ks)]:=by refine aQ (hσ2 ..) ?_;rfl
  have a6:jv.wait=σ.wait:=by refine aQ (hσ2 ..) ?_;rfl
  have a7:jv.known=σ.known:=by refine aQ (hσ2 ..) ?_;rfl
  have a8:jv.dc=σ.dc:=by refine aQ (hσ2 ..) ?_;rfl
  have a9:jv.dO=σ.dO:=by refine aQ (hσ2 ..) ?_;rfl
  have Bz:jv.merged=σ.merged:=by refine aQ (hσ2 ..) ?_;rfl
  have xS:jv.dd.length=σ.dd.length+1:=by refine aQ (hσ2 ..) ?_;exact bS
  have BC:jv.db.length=σ.db.length+1:=by refine aQ (hσ2 ..) ?_;exact bS
  have rq:=I.sT;refine Mz (r:=σ.ops.length) (x:=σ.al.length) (by refine aa (a1 ..) ?_;exact Rg aZ cm hL hP rq) ?_;generalize hσ3:({jv with ab:=dput jv.ab σ.ops.length σ.al.length}:St)=dg;have b1:dg.ab=dput σ.ab σ.up.length σ.al.length:=by(refine aQ (hσ3 ..) ?_;refine aQ (aZ ..) ?_;refine aQ (a1 ..) ?_;rfl)
  have b2:dg.al=σ.al++[[]]:=by(refine aQ (hσ3 ..) ?_;refine aQ (a2 ..) ?_;rfl)
  have b3:dg.up=σ.up++[σ.up.length]:=by(refine aQ (hσ3 ..) ?_;refine aQ (a3 ..) ?_;rfl)
  have b4:dg.bx=σ.bx++[[σ.up.length]]:=by(refine aQ (hσ3 ..) ?_;refine aQ (a4 ..) ?_;rfl)
  have b5:dg.ops=σ.ops++[(op,ks)]:=by(refine aQ (hσ3 ..) ?_;refine aQ (a5 ..) ?_;rfl)
  have b6:dg.wait=σ.wait:=by(refine aQ (hσ3 ..) ?_;refine aQ (a6 ..) ?_;rfl)
  have b7:dg.known=σ.known:=by(refine aQ (hσ3 ..) ?_;refine aQ (a7 ..) ?_;rfl)
  have b8:dg.dc=σ.dc:=by(refine aQ (hσ3 ..) ?_;refine aQ (a8 ..) ?_;rfl)
  have b9:dg.dO=σ.dO:=by(refine aQ (hσ3 ..) ?_;refine aQ (a9 ..) ?_;rfl)
  have yq:dg.merged=σ.merged:=by(refine aQ (hσ3 ..) ?_;refine aQ (Bz ..) ?_;rfl)
  have yr:dg.dd.length=σ.dd.length+1:=by refine aQ (hσ3 ..) ?_;exact xS
  have yt:dg.db.length=σ.db.length+1:=by refine aQ (hσ3 ..) ?_;exact BC
  have f3:gc dg.up:=by refine aa (b3 ..) ?_;exact CO I.fo
  have l3:dg.up.length=σ.up.length+1:=by refine aa (b3 ..) ?_;exact bS
  have r3:∀{x:Nat},x<σ.up.length->root dg.up x=root σ.up x:=λhx=>by refine aa (b3 ..) ?_;exact MG I.fo hx
  (with_reducible refine aD ?_;simp only[aE,jr,Fy,aC,gM,gs,gz,de,a0,aT,aG,aw])
  simp only[fV,fU,jj,aw];refine⟨trivial,m7 (f:=λp=>match p with|.int i=>nat (root dg.up i.toNat)|_=> .none) (λρ H Q h=>h) (λx hx Q hq=>?_) (by refine aa (bQ ..) ?_;exact uN dR hL) trivial λcG=>?_⟩
  ·(refine ay (bH.mp hx) ?_;rintro k cV rfl)
   simp only[aR,bh,gz,gs,aw]
   have dQ:=hk k cV;refine⟨fX rfl,((nf C.toOk f3 (pw l3 dQ) (Rh aZ cm hL l3)).le (by omega)).dt ?_⟩;exact hq
  ·refine⟨_,rfl,?_⟩
   have e1:(nats ks).map (λp=>match p with|.int i=>nat (root dg.up i.toNat)|_=> .none)=nats (ks.map (root dg.up)):=by
    unfold nats;(refine aa (cB ..) ?_;refine aa (cB ..) ?_);rfl
   refine aa (e1 ..) ?_;refine C.Fd (xs:=ks.map (root dg.up)) rfl (by rewrite[bp];exact Ri dR) (λx hx=>?_) λys bv no=>?_
   ·(refine ay (bH.mp hx) ?_;rintro k cV rfl)
    have:=hk k cV
    have:=fK f3 (show k<dg.up.length by exact pw l3 this);exact Rj aZ cm l3 this
   ·simp only[fV,fU,jj,aw]
    have DE:∀y,y∈ys↔y∈ks.map (root σ.up):=by
     intro y;rewrite[no];have:ks.map (root dg.up)=ks.map (root σ.up):=iO λx hx=>r3 (hk x hx);refine aa (this ..) ?_;rfl
    have KR:∀y∈ys,y<σ.up.length/\∃x,bc dg.ab y=ae x/\bc σ.ab y=ae x/\x<σ.al.length:=by
     intro y hy;refine ay (bH.mp ((DE y).mp hy)) ?_;rintro k cV rfl
     have h1:=fK I.fo (hk k cV);refine aM (I.q0 _ h1 (lh I.fo (hk k cV))) ?_;intro x hx;refine⟨h1,x,?_,hx,(I.kO _ x hx).2.2⟩
     (refine aa (b1 ..) ?_;rewrite[je];refine aa (if_neg (qW h1) ..) ?_);exact hx
    have u3:∀r,us dg r=if r=σ.up.length then[]else us σ r:=by
     intro r;unfold us;refine aa (b1 ..) ?_;rewrite[je];refine aa (b2 ..) ?_;by_cases h:r=σ.up.length
     ·(refine aa (if_pos h ..) ?_;refine aa (if_pos h ..) ?_);exact th
     ·(refine aa (if_neg h ..) ?_;refine aa (if_neg h ..) ?_)
      cases hx:bc σ.ab r with
      |none=>rfl
      |some x=>exact ti (I.kO r x hx).2.2
    have afY:∀r,(us σ r).length<=32:=I.nG;refine iZ (I:=AI fd σ dg tl v t op ks ys) (R:=λU U U=>False) ⟨⟨ai,rfl⟩,dg.al,rfl,by refine aa (b2 ..) ?_;exact bS,λr=>by simp⟩ ?_ (λi ρ H h=>trivial) ?_ (λp ρ H h=>h.elim)
    ·(intro i;intro x;intro ρ;intro H;intro Q';intro hx;intro aj;rcases aj with⟨⟨q,rfl⟩,ge,rfl,g1,g2⟩;intro cW;intro hr)
     (refine ay (by
       unfold nats at hx;rw[dB,i9]at hx;refine ay hx ?_;clear hx;intro y c1 c2;exact⟨y,c1,c2.symm⟩:∃y,ys[i]? =ae y/\x=nat y) ?_;rintro y hy rfl)
     refine aK (KR y (eD hy)) ?_;intro yl aj;refine cb aj ?_;clear aj;intro x dx XN xl
     (simp only[bZ,aR,bh];with_reducible refine aD ?_;simp only[aE,be,fq,fD,aC,a0,aT,aG,gs,gz,aw,dM,ch,sU])
     refine zv (x:=x) dx ?_
     have ga:=vi (fd:=fd) (tl:=tl) (v:=v) (t:=t) (σ:={dg with al:=ge}) (x:=x) (show x<ge.length by exact pw g1 xl);refine⟨jn (by exact .inl rfl) ga,?_⟩;refine aa (j9 ga ..) ?_;refine aQ (EQ ..) ?_;refine aQ (ow ..) ?_;refine aa (aeN ..) ?_;have abi:us {dg with al:=ge} y=ge.getD x []:=Ao dx;have abh:(ge.getD x []).length<=33:=by
      refine aQ (abi ..) ?_;rewrite[g2];rewrite[u3];refine aa (bS ..) ?_
      have:=afY y;refine aa (if_neg (qW yl) ..) ?_;split<;>simp<;>(first|exact Rk this|exact Rl this)
     refine⟨by refine aa (bQ ..) ?_;show(ge.getD x []).length<aI;exact Rm hL abh,rfl,cW _ _ ⟨⟨_,rfl⟩,_,rfl,by refine aa (qA ..) ?_;exact g1,λr=>?_⟩⟩;have aaR:us {dg with al:=ge.set x (ge.getD x []++[σ.ops.length])} r=us {dg with al:=ge} r++if r=y then[σ.up.length]else[]:=by
      cases hd:bc dg.ab r with
      |none=>
       have:r≠y:=λe=>by rw[e,dx]at hd;exact sn hd
       refine aa (if_neg this ..) ?_;unfold us;simp only[hd,kI]
      |some z=>
       refine aa (Ao (τ:={dg with al:=ge.set x (ge.getD x []++[σ.ops.length])}) hd ..) ?_;refine aa (Ao (τ:={dg with al:=ge}) hd ..) ?_;refine(?_:(ge.set x _).getD z []=ge.getD z []++_);refine aa (yS (pw g1 xl) ..) ?_;by_cases h:r=y
       ·subst h
        rw[dx]at hd;injection hd with hd;subst hd;refine aa (if_pos rfl ..) ?_;refine aa (if_pos rfl ..) ?_;refine aa (aZ ..) ?_;rfl
       ·have:z≠x:=by
         intro e;subst e;rw[b1,je]at hd;by_cases h5:r=σ.up.length
         ·rw[if_pos h5]at hd;injection hd with hd;exact Ro xl hd
         ·rw[if_neg h5]at hd;exact h (I.yg r y z hd XN)
        refine aa (if_neg this ..) ?_;refine aa (if_neg h ..) ?_;rewrite[kI];rfl
     refine aa (aaR ..) ?_;rewrite[g2];rewrite[kH]
     congr 1
     have fT:ys.take (i+1)=ys.take i++[y]:=by(refine aa (kK ..) ?_;refine aa (hy ..) ?_);rfl
     refine aa (fT ..) ?_;by_cases h:r=y
     ·have gf:r∉ys.take i:=by
       intro hm;have iD:i<ys.length:=(bJ.mp hy).1;have aaO:ys.take i++[y]++ys.drop (i+1)=ys:=by refine aQ (fT ..) ?_;exact List.take_append_drop _ _
       rw[<-aaO,kH,l7]at bv;exact bv.2.2 r hm y (by simp) h
      (refine aa (if_neg gf ..) ?_;refine aa (if_pos h ..) ?_;refine aa (if_pos (by simp[h]) ..) ?_);rfl
     ·(refine aa (if_neg h ..) ?_;rewrite[kI])
      simp[h]
    ·(intro ρ;intro H;intro aj;rcases aj with⟨⟨q,rfl⟩,ge,rfl,g1,g2⟩)
     have J:=Vt (τ:={dg with al:=ge}) (E:=σ.wait) I aZ lM hk dR cm b5 b3 b4 yq b8 b9 b7 b1 g1 (λr=>by
      (rewrite[g2];rewrite[u3];refine aa (bQ ..) ?_;refine aa (kL ..) ?_)
      by_cases h:r=σ.up.length
      ·(refine aa (if_pos h ..) ?_;refine aa (if_pos h ..) ?_;rewrite[if_neg])
       ·rfl
       ·intro hm
        have:=(KR r hm).1;exact Rp h this
      ·(refine aa (if_neg h ..) ?_;refine aa (if_neg h ..) ?_)
       by_cases h2:r∈ys
       ·(refine aa (if_pos h2 ..) ?_;refine aa (if_pos ((DE r).mp h2) ..) ?_;rfl)
       ·(refine aa (if_neg h2 ..) ?_;refine aa (if_neg (λh3=>h2 ((DE r).mpr h3)) ..) ?_;rfl))
     (with_reducible refine aD ?_;simp only[aE,fq,de,aC,a0,aT,aG,gs,gz,aw])
     refine aa (aZ ..) ?_;have J':Inv {dg with al:=ge} ps (σ.up.length::({dg with al:=ge}:St).wait):=by
      rw[<-b6]at J;exact J
     refine⟨fX rfl,((LJ C.toOk J' (by show dg.ops.length=dg.up.length;(refine aa (b5 ..) ?_;refine aa (l3 ..) ?_;refine aa (bS ..) ?_;refine aa (aZ ..) ?_);rfl) eG).le (by omega)).mono ?_⟩
     (intro p;intro H';intro aj;refine aK aj ?_;clear aj;rintro rfl aS;refine ay aS ?_;clear aS;rintro ω rfl cO;refine t6 cO ?_;clear cO;intro J2 c1 c2 c3 c4 c5)
     have IP:ω.ops=σ.ops++[(op,ks)]:=c1.trans b5;have WT:ω.up.length=σ.up.length+1:=c2.trans l3;have WU:ω.dd.length=σ.dd.length+1:=by refine aa (c4 ..) ?_;exact yr
     have WV:ω.db.length=σ.db.length+1:=by refine aa (c5 ..) ?_;exact yt
     have c6:ω.ops.length=σ.ops.length+1:=by refine aa (IP ..) ?_;exact bS
     refine⟨rfl,?_⟩
     (with_reducible refine aD ?_;simp only[aE,be,cf,aG,gs,gz,aC,aw])
     exact bu _ _ ⟨ω,rfl,J2,Rq aZ WT c6,Ho hw WU c6,Ho hd WV c6,.inr ⟨by(refine aa (aZ ..) ?_;rfl),IP⟩⟩
theorem ac0{rs:PV}(I:Inv σ ps σ.wait)(aZ:σ.ops.length=σ.up.length)(eG:ps.length<=100)(ha:a<σ.up.length)(hb:b<σ.up.length):
 bC X 4 .merge [hH,nat a,nat b,rs] (av fd σ tl v t) (λp H'=>notRef p=ag/\∃τ,H'=av fd τ tl v t/\Inv τ (ps++[(a,b)]) τ.wait/\τ.ops=σ.ops/\τ.up.length=σ.up.length/\τ.dd=σ.dd/\τ.db=σ.db):=by
 have hL:aI=1000000:=rfl
 have hN:=I.n
 have hP:=I.p
 have mv:=I.lQ
 have Di:=I.fz
 have Dq:=I.mz
 have za:=I.ez
 have rq:=I.sT;refine eu (M:=El) C.O (C.ck .merge (λh=>Fn.noConfusion h)) rfl λQz bu=>?_
 (with_reducible refine aD ?_;simp only[El,ce,bB,ci,cu,cA,bX,aE,be,cf,de,aC,a0,aT,aG,gs,gz,aw])
 refine⟨fX rfl,(Li C.toOk (rs:=rs) I.fo ha hb I.i4 (gR hL hN) (xX hL hP Dq) (λi j=>by have:=I.ot i;have:=I.ot j;exact Hb hL (by assumption) this) (fK I.fo ha) (fK I.fo hb) (Hc eG hL hP za) (xX hL hP Di) (λr hr=>?_) (Hd hL hN hP rq)
  (λi j=>by have:=I.nG i;have:=I.nG j;exact He hL (by assumption) this) (λi=>by have:=I.nG i;exact Rr hL hN hP mv this)).mono ?_⟩
 ·have ht:r<σ.up.length/\σ.up.getD r 0=r:=by
   rcases hr with rfl|rfl
   ·exact⟨fK I.fo ha,lh I.fo ha⟩
   ·exact⟨fK I.fo hb,lh I.fo hb⟩
  refine aM (I.q0 r ht.1 ht.2) ?_;intro x hx;exact⟨x,hx,(I.kO r x hx).2.2⟩
 ·rintro p H' (⟨h1,rfl,rfl⟩|⟨k,g,ek,eg,h,rfl,rfl⟩)
  ·refine bu _ _ ⟨rfl,_,rfl,?_,rfl,rfl,rfl,rfl⟩
   exact{I with
    qo:=I.qo
    mI:=I.mI
    qq:=I.qq
    ez:=by show(σ.dc++[_]).length<=_;(refine aa (bS ..) ?_;refine aa (bS ..) ?_);simp;show σ.dc.length+1<=gY σ.up+_;exact Hp za
    lc:=λR hR=>I.lc R (hR.mono λp hp=>mP _ hp)
    pj:=λp hp=>by
     rcases d8.mp hp with h|h
     ·exact I.pj p h
     ·simp at h;refine aa (h ..) ?_;exact h1
    pv:=λp hp=>by
     rcases d8.mp hp with h|h
     ·exact I.pv p h
     ·simp at h;refine aa (h ..) ?_;exact⟨ha,hb⟩}
  ·refine bu _ _ ⟨rfl,_,rfl,Lh I aZ ha hb h (λp hp=>?_) (λp hp=>mP _ hp) (by simp) (λR hR=>hR.pr (a,b) (by exact qC _ ca)) ek eg,rfl,by show(σ.up.set g k).length=_;(refine aa (qA ..) ?_;rfl),rfl,rfl⟩
   rcases d8.mp hp with h|h
   ·exact .inl h
   ·simp at h;exact .inr h
end
end
section
noncomputable def iK(up:List Nat):List Nat:=(bw up.length).filter λa=>decide (up.getD a 0=a)
theorem LY{up:List Nat}:a∈iK up↔a<up.length/\up.getD a 0=a:=by simp[iK]
theorem Fo(up:List Nat):(iK up).Nodup:=by unfold iK;exact AC _ AH
section
variable{X:Fx}(C:eM X){v:List aF}
theorem m2{n:Nat}(hk:k<1000000000)(h:Q (.eh k) H):fQ X n .range aY [nat k] H Q:=by
 refine(?_:(0<=(k:Int)/\(k:Int)<1000000000)/\Q (.eh (k:Int).toNat) H);exact⟨Rs hk,h⟩
include C
theorem afZ(hz:σ.up.length<=aI):bC X 1 .qk [hU] (av fd σ tl v t) (λp H'=>p=.lst (nats (iK σ.up))/\H'=av fd σ tl v t):=by
 have hL:aI=1000000:=rfl;refine jf (M:=Ey) C.O (C.ck .qk (λh=>Fn.noConfusion h)) rfl ?_
 (with_reducible refine aD ?_;simp only[Ey,ce,bB,ci,cu,cA,bX,aE,be,cf,gM,gs,gz,aG,aC,cM,a0,aT,ch,aw,nZ,jO nh,bQ])
 refine⟨by trivial,hz,m2 (Rt hz hL) ?_⟩;simp only[jj,aw];refine n4 (f:=id) (c:=λp=>match p with|.int i=>decide (σ.up.getD i.toNat 0=i.toNat)|_=>aq) (λx hx Q hq=>?_) (λx hx U Q hq=>?_) (by refine aa (bQ ..) ?_;simp;exact B3 hz) trivial _ (λy=>rfl) λcG=>?_
 ·(refine ay (bH.mp hx) ?_;rintro k hk rfl)
  simp only[aR,bh,qt,cc,aG,gs,gz,aC,aw,dM,ch,nZ,zx nh (er.mp hk) hz,m4];exact hq
 ·(refine ay (bH.mp hx) ?_;rintro k hk rfl)
  simp only[aR,bh,gs,gz,aw];exact hq
 ·refine⟨_,rfl,?_,rfl⟩
  unfold nats iK;refine aa (uh ..) ?_;simp only[bX,cB];rfl
theorem W1(hz:σ.up.length<=aI):bC X 2 .classes [hH] (av fd σ tl v t) (λp H'=>p=.lst (nats (iK σ.up))/\H'=av fd σ tl v t):=by
 refine jf (M:=D3) C.O (C.ck .classes (λh=>Fn.noConfusion h)) rfl ?_
 (with_reducible refine aD ?_;simp only[D3,ce,bB,ci,cu,cA,bX,aE,be,cf,de,aC,aT,ch,aG,gz,aw,rg])
 exact⟨nv rfl,(afZ C hz).mono λp H' x=>x⟩
theorem af1{E:List Nat}(I:Inv σ ps E)(ha:a<σ.up.length):bC X 2 .ql [hU,nat a] (av fd σ tl v t) (λp H'=>p=.lst (nats (dK (σ.bx.getD (root σ.up a) [])))/\H'=av fd σ tl v t):=by
 have hL:aI=1000000:=rfl
 have hN:=I.n
 have hr:=fK I.fo ha;refine jf (M:=EB) C.O (C.ck .ql (λh=>Fn.noConfusion h)) rfl ?_
 (with_reducible refine aD ?_;simp only[EB,ce,bB,ci,cu,cA,bX,aE,be,cf,cM,aC,a0,aT,dM,de,aG,gs,gz,aw,ch,yp])
 refine⟨nv rfl,(Am C.toOk I.fo ha (gR hL hN)).dt ?_⟩;refine aa (nq vk (x:=.ak (.l (root σ.up a))) (EI (F4 hr I.i4.symm)) (xZ hL hN hr) ..) ?_
 have hz:=I.ot (root σ.up a);refine aa (aff (getL (by refine aa ((I.i4) ..) ?_;exact hr)) ..) ?_;refine aa (fx ..) ?_;exact⟨x5 hz,by(refine aa (bQ ..) ?_;refine aa (((jS _).length_eq) ..) ?_);exact gR hL hz,rfl,rfl⟩
theorem acZ{E:List Nat}(I:Inv σ ps E)(ha:a<σ.up.length):bC X 3 .members [hH,nat a] (av fd σ tl v t) (λp H'=>p=.lst (nats (dK (σ.bx.getD (root σ.up a) [])))/\H'=av fd σ tl v t):=by
 refine jf (M:=Ek) C.O (C.ck .members (λh=>Fn.noConfusion h)) rfl ?_
 (with_reducible refine aD ?_;simp only[Ek,ce,bB,ci,cu,cA,bX,aE,be,cf,de,aC,a0,aT,aG,gs,gz,aw,ch,rg])
 exact⟨nv rfl,(af1 C I ha).mono λp H' x=>x⟩
theorem af6{E:List Nat}(I:Inv σ ps E)(ha:a<σ.up.length):bC X 3 .qp [hH,nat a] (av fd σ tl v t) (λp H'=>(∃ys:List Nat,ys.Nodup/\(∀y,y∈ys↔y∈us σ (root σ.up a))/\p=.lst (nats ys))/\H'=av fd σ tl v t):=by
 have hL:aI=1000000:=rfl
 have hN:=I.n;refine jf (M:=EE) C.O (C.ck .qp (λh=>Fn.noConfusion h)) rfl ?_
 (with_reducible refine aD ?_;simp only[EE,ce,bB,ci,cu,cA,bX,aE,be,cf,Fy,aC,dM,de,a0,aT,aG,gs,gz,aw,ch,sU])
 refine⟨fX rfl,(nf C.toOk I.fo ha (gR hL hN)).dt ?_⟩;refine aM (I.q0 _ (fK I.fo ha) (lh I.fo ha)) ?_;intro x hx;refine zv (x:=x) hx ?_;refine C.Fd (xs:=us σ (root σ.up a)) (by refine aa (Ao hx ..) ?_;exact rO (vi (I.kO _ x hx).2.2)) (by have:=I.nG (root σ.up a);exact Rv this) (λy hy=>by have:=I.mI _ _ hy;exact BE hN this) λys h1 h2=>⟨⟨ys,h1,h2,rfl⟩,rfl⟩
theorem adv{E:List Nat}(I:Inv σ ps E)(aZ:σ.ops.length=σ.up.length)(ji:∀nd∈σ.ops,nd.1∈cP)(ha:a<σ.up.length):bC X 4 .pY [hH,nat a] (av fd σ tl v t) (λp H'=>(∃ys:List (Str×List Nat),(∀y,y∈ys↔∃(n:Nat) (nd:Str×List Nat),σ.ops[n]? =ae nd/\root σ.up n=root σ.up a/\y=canon σ.up nd)/\p=.lst (ys.map bk))/\H'=av fd σ tl v t):=by
 have hL:aI=1000000:=rfl
 have hN:=I.n
 have hr:=fK I.fo ha;refine jf (M:=Ep) C.O (C.ck .pY (λh=>Fn.noConfusion h)) rfl ?_
 (with_reducible refine aD ?_;simp only[Ep,ce,bB,ci,cu,cA,bX,aE,be,cf,Fy,aC,gM,gs,gz,de,a0,aT,aG,aw])
 refine⟨by trivial,fX rfl,(acZ C I ha).dt ?_⟩;simp only[fV,fU,jj,aw]
 have hz:=I.ot (root σ.up a);have hlen:(dK (σ.bx.getD (root σ.up a) [])).length<=16:=by refine aa (((jS _).length_eq) ..) ?_;exact hz
 have iF:∀n,n∈dK (σ.bx.getD (root σ.up a) [])↔n<σ.up.length/\root σ.up n=root σ.up a:=λn=>by
  rewrite[(jS _).mem_iff];exact I.lR _ hr (lh I.fo ha) n
 refine m7 (f:=λp=>match p with|.int i=>bk (canon σ.up (σ.ops.getD i.toNat default))|_=> .none) (λρ H Q h=>h) (λx hx Q hq=>?_) (by refine aa (bQ ..) ?_;exact gR hL hlen) trivial λcG=>?_
 ·(refine ay (bH.mp hx) ?_;rintro n hn rfl)
  refine aK ((iF n).mp hn) ?_;intro lL cW;have bv:σ.ops[n]? =ae (σ.ops.getD n default):=getD_some (ie aZ lL);simp only[aR,bh,gz,gs,aw];refine⟨fX rfl,(L8 C.toOk I.fo bv (λk hk=>I.iG lL bv hk) (gR hL hN) (xZ hL hN lL) (by have:=(I.dz n _ bv).2;exact Hq this)).dt ?_⟩;exact hq
 ·refine⟨_,rfl,?_⟩
  have e1:(nats (dK (σ.bx.getD (root σ.up a) []))).map (λp=>match p with|.int i=>bk (canon σ.up (σ.ops.getD i.toNat default))|_=> .none)=((dK (σ.bx.getD (root σ.up a) [])).map λn=>canon σ.up (σ.ops.getD n default)).map bk:=by
   unfold nats;rewrite[cB,cB];rfl
  refine aa (e1 ..) ?_;have get:∀{n:Nat},n<σ.up.length->σ.ops[n]? =ae (σ.ops.getD n default):=λ{n} hn=>getD_some (ie aZ hn);refine C.M8 (xs:=(dK (σ.bx.getD (root σ.up a) [])).map λn=>canon σ.up (σ.ops.getD n default)) rfl (by rewrite[bp];exact Hr hlen) (λnd bv=>?_) λys h2=>⟨⟨ys,λy=>?_,rfl⟩,rfl⟩
  ·(refine ay (bH.mp bv) ?_;rintro n hn rfl)
   refine aK ((iF n).mp hn) ?_;intro lL cW
   have dp:=get lL;refine⟨ji (σ.ops.getD n default) (eD dp),by unfold canon;rewrite[bp];exact(I.dz n _ dp).2,λk hk=>?_⟩;refine ay (bH.mp hk) ?_;rintro j hj rfl;exact Rw hN (fK I.fo (I.iG lL dp hj))
  ·(rewrite[h2];rewrite[bH])
   constructor
   ·(intro aj;refine ay aj ?_;clear aj;rintro n hn rfl)
    refine aK ((iF n).mp hn) ?_;intro lL cW;exact⟨n,_,get lL,cW,rfl⟩
   ·(intro aj;refine kC aj ?_;clear aj;rintro n nd h3 h4 rfl)
    have hn:n<σ.up.length:=by refine aQ (aZ ..) ?_;exact(bJ.mp h3).1
    refine⟨n,(iF n).mpr ⟨hn,h4⟩,?_⟩
    have:=get hn;rw[h3]at this;injection this with this;refine aQ (this ..) ?_;rfl
end
end
section
theorem Co(a:Nat):qI (a:Int)=AB a:=by unfold qI;omega
theorem Cp(a:Nat):qI (AB a)=(a:Int):=by unfold qI;omega
theorem WJ(a b:Nat):Gi (a:Int) (b:Int)=((a|||b:Nat):Int):=by
 unfold Gi
 (rewrite[Co];rewrite[Co])
 refine(?_:qI (qI (((qI (AB a)).toNat|||(qI (AB b)).toNat:Nat):Int))=_)
 (rewrite[Cp];rewrite[Cp];rewrite[Co];rewrite[Cp])
 rfl
theorem YB(a k:Nat):Int.fdiv (a:Int) (2^k)=((a/2^k:Nat):Int):=by
 have:(2:Int)^k=((2^k:Nat):Int):=by rfl
 refine aa (this ..) ?_;exact(Int.ofNat_fdiv a (2^k)).symm
section
theorem IH:iY .BitAnd aY (nat a) (nat b) H Q=Q (nat (a&&&b)) H:=rfl
theorem WF:iY .BitOr aY (nat a) (nat b) H Q=Q (nat (a|||b)) H:=by
 exact congrArg (λz=>Q (.int z) H) (WJ a b)
theorem II:iY .RShift aY (nat a) (nat b) H Q=Q (nat (a/2^b)) H:=by
 refine(?_:(0<=(b:Int)/\Q (.int ((a:Int).fdiv (2^(b:Int).toNat))) H)=_);refine aa ((show((b:Int).toNat)=b from rfl) ..) ?_;rewrite[YB];exact propext ⟨λx=>x.2,λx=>⟨uM,x⟩⟩
end
noncomputable def dq(b:Nat):List Nat:=(bw 12).filter λk=>b.testBit k
noncomputable def gK(b:Nat):PV:=.tup (nats (dq b))
noncomputable def bF:Option Nat->PV
 |none=> .none
 |some b=>gK b
theorem VK{P A:Prop}(h:¬(b1=ag/\b2=ag))(hP:P)(hB:B):
 if b1=(dh==dh)then P/\(if b2=(dh==dh)then True/\(if(dh==dh)=ag then A else B)else(if b2=ag then A else B))else(if b1=ag then A else B):=by
 cases b1
 ·exact hB
 ·cases b2
  ·exact(⟨hP,hB⟩:P/\B)
  ·exact absurd ⟨rfl,rfl⟩ h
theorem Ce{P A:Prop}(hP:P)(hA:b1=ag->b2=ag->A)(hB:¬(b1=ag/\b2=ag)->B):
 if b1=(dh==dh)then P/\(if b2=(dh==dh)then True/\(if(dh==dh)=ag then A else B)else(if b2=ag then A else B))else(if b1=ag then A else B):=by
 cases b1
 ·exact hB λz=>ff z.1
 ·cases b2
  ·exact(⟨hP,hB λz=>ff z.2⟩:P/\B)
  ·exact(⟨hP,trivial,hA rfl rfl⟩:P/\True/\A)
theorem DU{X:Fx}{n:Nat}:fQ X n .len aY [.lst xs] H Q=(xs.length<=aI/\Q (nat xs.length) H):=rfl
theorem s7{a b:Str}(ha:PV.clean (.str a)=ag)(hb:PV.clean (.str b)=ag){k:Bool->Prop}:cK .Eq (.str a) (.str b) H k=k (decide (a=b)):=by
 have h:(PV.str a).eqv (.str b)=decide (a=b):=by
  by_cases h:a=b
  ·refine aa (decide_eq_true h ..) ?_;exact(PV.iC _ _ ha hb).mpr (by(refine aa (h ..) ?_;rfl))
  ·refine aa (decide_eq_false h ..) ?_
   cases e:(PV.str a).eqv (.str b)with
   |false=>rfl
   |true=>exact absurd ((PV.iC _ _ ha hb).mp e) (λz=>by injection z with z;exact h z)
 refine aQ (h ..) ?_;exact propext ⟨λx=>x.2,λx=>⟨jd ha hb (.inl (cJ _)),x⟩⟩
theorem nx{xs:List Nat}{x:PV}(h:(nats xs)[i]? =ae x):∃y,xs[i]? =ae y/\x=nat y:=by
 unfold nats at h;rw[dB,i9]at h;refine ay h ?_;clear h;intro y c1 c2;exact⟨y,c1,c2.symm⟩
theorem Fh{a b:Str}(ha:PV.clean (.str a)=ag)(hb:PV.clean (.str b)=ag):(PV.str a).eqv (.str b)=decide (a=b):=by
 by_cases h:a=b
 ·refine aa (decide_eq_true h ..) ?_;exact(PV.iC _ _ ha hb).mpr (by(refine aa (h ..) ?_;rfl))
 ·refine aa (decide_eq_false h ..) ?_
  cases e:(PV.str a).eqv (.str b)with
  |false=>rfl
  |true=>exact absurd ((PV.iC _ _ ha hb).mp e) (λz=>by injection z with z;exact h z)
theorem acN:(PV.lst (nats bs)).eqv (.lst [])=decide (bs=[]):=by
 have hc:PV.clean (.lst (nats bs))=ag:=yz bs;by_cases h:bs=[]
 ·refine aa (decide_eq_true h ..) ?_;exact(PV.iC _ _ hc rfl).mpr (by refine aa (h ..) ?_;rfl)
 ·refine aa (decide_eq_false h ..) ?_
  cases e:(PV.lst (nats bs)).eqv (.lst [])with
  |false=>rfl
  |true=>
   have:=(PV.iC _ _ hc rfl).mp e;injection this with this;exact absurd (EP.mp (this.trans (show[]=nats []from rfl))) h
theorem Xy:(PV.lst (nats bs)).rm<=60:=by show PV.m9 (nats bs)+1<=60;rewrite[CA];omega
noncomputable def gq(op:Str):Bool:=decide (op="var0")||(decide (op="var1")||decide (op="var2"))
noncomputable def jT(op:Str):Nat:=if op="var0"then 0 else if op="var1"then 1 else 2
noncomputable def overF(op:Str)(bs:List Nat):Nat:=if gq op=ag/\bs=[]then 2^jT op else if op="lam"/\bs.length=1 then bs.foldl (·||| ·) 0/2 else bs.foldl (·||| ·) 0
theorem Fq:PV.clean (.str "var0")=ag/\PV.clean (.str "var1")=ag/\PV.clean (.str "var2")=ag/\PV.clean (.str "lam")=ag:=by decide+kernel
theorem aga:∀op∈cP,gq op=ag->(match op.cps[3]? with|some c=>decide ((⟨#[c]⟩:Str).length<=640)&&decide (uC (⟨#[c]⟩:Str)=ae ((jT op:Nat):Int))|none=>aq)=ag:=by decide+kernel
theorem W7(ho:op∈cP){k:Bool->Prop}:cK .In (.str op) (.tup [.str "var0",.str "var1",.str "var2"]) H k=k (gq op):=by
 refine mJ Fq ?_;intro c0 c1 c2 aj
 have dZ:=oy op ho;refine(?_:((∀x∈[PV.str "var0",.str "var1",.str "var2"],x.jc (.str op))/\k ([PV.str "var0",.str "var1",.str "var2"].any λx=>x.eqv (.str op)))=_);simp only[oQ,N4,FG,Fh c0 dZ,Fh c1 dZ,Fh c2 dZ];have e:(decide ("var0"=op)||(decide ("var1"=op)||decide ("var2"=op)))=gq op:=by
  unfold gq;simp only[eq_comm]
 refine aa (e ..) ?_;refine propext ⟨λx=>x.2,λx=>⟨λy hy=>?_,x⟩⟩;simp only[cH,kJ,or_false]at hy;rcases hy with rfl|rfl|rfl
 ·exact jd c0 dZ (.inl (cJ _))
 ·exact jd c1 dZ (.inl (cJ _))
 ·exact jd c2 dZ (.inl (cJ _))
section
variable{X:Fx}(C:eM X)
include C
theorem zS:bC X 1 .names [nat b] H (λp H'=>p=gK b/\H'=H):=by
 have hL:aI=1000000:=rfl;refine eu (M:=Em) C.O (C.ck .names (λh=>Fn.noConfusion h)) rfl λQz bu=>?_
 (with_reducible refine aD ?_;simp only[Em,ce,bB,ci,cu,cA,bX,aE,be,cf,cM,aC,a0,aT,gM,gs,gz,aG,cT])
 refine aa ((show PV.int 12=nat 12 from rfl) ..) ?_;refine⟨by trivial,m2 (by omega) ?_⟩;simp only[jj,aw];refine n4 (f:=id) (c:=λp=>match p with|.int i=>b.testBit i.toNat|_=>aq) (λx hx Q hq=>?_) (λx hx U Q hq=>?_) (by refine aa (bQ ..) ?_;first|exact bR rfl|(simp;exact Rx hL)) trivial _ (λy=>rfl) λcG=>?_
 ·(refine ay (bH.mp hx) ?_;rintro k hk rfl)
  simp only[aR,bh,qt,cc,cT,on,aC,eP,aG,gs,gz,aw,II,IH,m4];have e:decide (b/2^k&&&1=1)=b.testBit k:=by
   refine aa (Nat.testBit_eq_decide_div_mod_eq ..) ?_;rewrite[Nat.and_one_is_mod];rfl
  refine aa (e ..) ?_;exact hq
 ·(refine ay (bH.mp hx) ?_;rintro k hk rfl)
  simp only[aR,bh,gs,gz,aw];exact hq
 ·refine⟨_,rfl,?_⟩
  have e:AF id (si (λp=>match p with|.int i=>b.testBit i.toNat|_=>aq) (nats (bw 12)))=nats (dq b):=by
   unfold nats dq;refine aa (uh ..) ?_;rewrite[qB];rfl
  (rewrite[bX];refine aa (e ..) ?_)
  simp only[uY];refine⟨?_,bu _ _ ⟨rfl,rfl⟩⟩;refine aa (bQ ..) ?_;have:(dq b).length<=(bw 12).length:=um _ _;rw[eZ]at this;exact qX hL this
theorem Mp(ho:op∈cP)(hz:bs.length<=100):bC X 1 .over [.str op,.lst (nats bs)] H (λp H'=>p=nat (overF op bs)/\H'=H):=by
 have hL:aI=1000000:=rfl;refine eu (M:=Et) C.O (C.ck .over (λh=>Fn.noConfusion h)) rfl λQz bu=>?_
 (with_reducible refine aD ?_;simp only[Et,ce,bB,ci,cu,cA,bX,aE,w_ite,be,kD,l0,lZ,ef,cc,fr,aC,fx,aT,aG,gs,gz,aw,eQ,a0,fZ])
 refine⟨by refine aa (hL ..) ?_;decide,?_⟩;refine aa (W7 ho ..) ?_;have aap:∀{k:Bool->Prop},cK .Eq (.lst (nats bs)) (.lst []) H k=k (decide (bs=[])):=by
  intro k;refine aQ (acN ..) ?_;exact propext ⟨λx=>x.2,λx=>⟨jd (yz bs) rfl (.inl Xy),x⟩⟩
 simp only[jx,aap];by_cases hv:gq op=ag/\bs=[]
 ·refine aa (if_pos (by refine aa ((hv.1) ..) ?_;rfl) ..) ?_
  refine⟨BJ,?_⟩;refine aa (if_pos (by refine aa ((hv.2) ..) ?_;rfl) ..) ?_;simp only[beq_self_eq_true,↓fw,if_true];refine⟨by trivial,?_⟩
  (with_reducible refine aD ?_;simp only[aE,be,cf,eP,aC,cM,a0,aT,dM,cT,aG,gz,aw])
  have hd:=aga op ho hv.1;refine(?_:(0<=(3:Int)/\(3:Int)<2^60)/\ok (op.cps[i8 3]?) _);refine aa ((show i8 3=3 from rfl) ..) ?_;cases hc:op.cps[3]? with
  |none=>rw[hc]at hd;exact ff hd
  |some c=>
   rw[hc]at hd;simp only[mM,decide_eq_true_eq]at hd;simp only[aw,IF,hd.2,K6,WG];have:jT op<=2:=by unfold jT;split<;>(try split)<;>decide
   refine⟨by decide,hd.1,⟨uM,Ry this,by decide⟩,bu _ _ ⟨?_,rfl⟩⟩;unfold overF;refine aa (if_pos hv ..) ?_;refine aa ((show((jT op:Int).toNat)=jT op from rfl) ..) ?_;rewrite[Int.one_mul];rewrite[<-K6];rfl
 ·refine VK (b2:=decide (bs=[])) (by simpa using hv) (BJ) ?_
  (with_reducible refine aD ?_;simp only[aE,bE,bZ,aR,bh,cT,aC])
  (with_reducible refine aD ?_;simp only[aE,jr,aG,gs,gz,aC,aw])
  simp only[fV,fU,jj,aw];refine iZ (I:=λi ρ H'=>(∃q,ρ=[ae (.str op),ae (.lst (nats bs)),ae (nat ((bs.take i).foldl (·||| ·) 0)),q])/\H'=H) (R:=λU U U=>False) ⟨⟨ai,rfl⟩,rfl⟩ ?_ (λi ρ H h=>trivial) ?_ (λp ρ H h=>h.elim)
  ·(intro i;intro x;intro ρ;intro H;intro Q';intro hx;intro aj;refine aK aj ?_;clear aj;intro aB aS;refine aM aB ?_;clear aB;rintro q rfl;rcases aS with rfl;intro cW;intro hr)
   refine ay (nx hx) ?_;rintro y hy rfl
   (simp only[bZ,aR,bh];with_reducible refine aD ?_;simp only[aE,be,bE,bZ,aR,bh,eP,aC,aG,gs,gz,aw,WF])
   refine cW _ _ ⟨⟨ae (nat y),?_⟩,rfl⟩;have fT:bs.take (i+1)=bs.take i++[y]:=by(refine aa (kK ..) ?_;refine aa (hy ..) ?_);rfl
   refine aa (fT ..) ?_;refine aa (sj ..) ?_;rfl
  ·(intro ρ;intro H;intro aj;refine aK aj ?_;clear aj;intro aB aS;refine aM aB ?_;clear aB;rintro q rfl;rcases aS with rfl)
   refine aa (bQ ..) ?_;refine aa (kL ..) ?_
   (with_reducible refine aD ?_;simp only[aE,be,cf,mL,eP,aC,cT,on,aG,gs,gz,aw,II,kD,l0,lZ,cc,cM,a0,aT,DU,bQ,m4,fZ,s7 (oy op ho) Fq.2.2.2])
   refine⟨by trivial,Ce (b1:=decide (op="lam")) (b2:=decide (bs.length=1)) (qV hz hL) (λh1 h2=>bu _ _ ⟨?_,rfl⟩) (λh=>bu _ _ ⟨?_,rfl⟩)⟩
   ·unfold overF
    refine aa (if_neg hv ..) ?_;refine aa (if_pos ⟨of_decide_eq_true h1,of_decide_eq_true h2⟩ ..) ?_;rfl
   ·unfold overF
    refine aa (if_neg hv ..) ?_;refine aa (if_neg (by simpa using h) ..) ?_;rfl
end
end
section
noncomputable def Ar:List Str:=["0","1","2","","01","-1"]
noncomputable def s8(s:Str):Str:=if s="-1"then"1"else s
noncomputable def nH(s:Str):Int:=if s="0"then 0 else if s="1"then 1 else if s="2"then 2 else if s="01"then 1 else -1
noncomputable def qr(s:Str):PV:=if s=""then .none else .int (nH s)
noncomputable def CD:List Str:=["0","1","2"]
theorem agr:∀s∈Ar,(lj s ai (ae 1)).length<=aI/\PV.clean (.str (lj s ai (ae 1)))=ag/\decide (lj s ai (ae 1)="-")=decide (s="-1")/\s.length<=640/\(s8 s).length<=1000/\(s≠""->0<(s8 s).length)/\(s≠""->uC s=ae (nH s)):=by decide+kernel
theorem agq:lj "-1" (ae 1) ai="1":=by decide+kernel
theorem Xo:PV.clean (.str "-")=ag:=by decide+kernel
theorem NE:∀s∈Ar,∀x∈(s8 s).cps.toList.map (λc=>(⟨#[c]⟩:Str)),x∈CD:=by decide+kernel
theorem XI:∀x∈CD,(AV "0123456789" x 0 (Str.length "0123456789") 1).isEmpty=aq:=by decide+kernel
theorem acn{X:Fx}{n:Nat}:fQ X n .len aY [.str x] H Q=(x.length<=aI/\Q (nat x.length) H):=rfl
theorem ada{k:Bool->Prop}(h:k aq):cK .NotEq (.lst []) (.lst []) H k:=by
 have e3:(PV.lst []).eqv (.lst [])=ag:=(PV.iC _ _ rfl rfl).mpr rfl;refine(?_:_/\k (!(PV.lst []).eqv (.lst [])));refine aa (e3 ..) ?_;exact⟨jd rfl rfl (.inl (by decide)),h⟩
noncomputable def NB:iz:=(.cons (.ite (.gE .Or (.cons (.not (.rj .Lt .LtE (.int 0) (.bi .len ai (.cons (.var 1) .nil)) (.int 1000))) (.cons (.cmp .NotEq (.comp ai 2 (.var 1) (.cons (.cmp .NotIn (.var 2) (.str "0123456789")) .nil) (.var 2)) (.lst ai .nil)) .nil))) (.cons (.ret .none) .nil) .nil) (.cons (.ret (.bi .intOf ai (.cons (.var 0) .nil))) .nil))
section
variable{X:Fx}
theorem NC{s D:Str}(f1:D.length<=1000)(f2:∀x∈D.cps.toList.map (λc=>(⟨#[c]⟩:Str)),x∈CD)(f3:s≠""->0<D.length)(f4:s=""->D.length=0)(f5:s.length<=640)(f6:s≠""->uC s=ae (nH s)){Qz:PV->HP->Prop}(bu:Qz (qr s) H):
 bd X 0 NB [ae (.str s),ae (.str D),ai] H (λfl U H'=>Qz (match fl with|.next=> .none|.ret p=>p) H'):=by
 have hL:aI=1000000:=rfl
 (with_reducible refine aD ?_;simp only[NB,aE,w_ite,be,kD,l0,lZ,ef,cc,fr,aC,fx,aT,gM,gs,gz,aG,aw,t8,NM,cT,cM,a0,acn,vY,s0])
 refine aa ((show PV.int 1000=nat 1000 from rfl) ..) ?_;simp only[W8];refine⟨by trivial,by trivial,Rz f1 hL,?_⟩;by_cases h0:s=""
 ·have h1:¬0<D.length:=by have:=f4 h0;exact RA this
  refine aa (if_neg (by simpa using h1) ..) ?_;refine aa (if_neg (by decide) ..) ?_;refine aa (if_pos (by rfl) ..) ?_
  (with_reducible refine aD ?_;simp only[aE,be,cf,ju,aC])
  unfold qr at bu;rw[if_pos h0]at bu;exact bu
 ·have h1:=f3 h0
  refine aa (if_pos (by simpa using h1) ..) ?_;refine aa ((show decide (D.length<=1000)=ag from by simpa using f1) ..) ?_;refine aa (if_pos (by rfl) ..) ?_;refine⟨trivial,?_⟩;simp only[La,aw];refine n4 (c:=λU=>aq) (f:=id) (λx hx Q hq=>?_) (λx hx h=>by exact ff h) ?_ trivial _ (λy=>rfl) (λcG=>?_)
  ·unfold chars at hx
   refine ay (bH.mp hx) ?_;rintro c hc rfl;simp only[aR,bh,qt,cc,I0,fZ,aC,aG,gs,gz,aw,in_str,XI _ (f2 ⟨#[c]⟩ (bH.mpr ⟨c,hc,rfl⟩))];exact hq
  ·unfold chars
   (rewrite[bp];refine aa (jx ..) ?_)
   have e:D.cps.toList.length=D.length:=by rfl
   exact RB f1 hL e
  ·have e2:(si (λU=>aq) (chars D))=[]:=by simp
   refine aa (e2 ..) ?_;simp only[ci,kI];refine⟨_,rfl,by exact bR rfl,ada ?_⟩;refine aa (if_pos (by rfl) ..) ?_;refine⟨trivial,?_⟩;refine aa (if_neg (by decide) ..) ?_
   (with_reducible refine aD ?_;simp only[aE,be,cf,cM,aC,a0,aT,aG,gz,aw,IF,f6 h0])
   refine⟨f5,?_⟩;unfold qr at bu;rw[if_neg h0]at bu;exact bu
end
section
variable{X:Fx}(C:eM X)
include C
theorem agp{s:Str}(hs:s∈Ar):bC X 1 .sd [.str s] H (λp H'=>p=qr s/\H'=H):=by
 have hL:aI=1000000:=rfl;refine agt (agr s hs) ?_;intro w1 w2 w3 w4 w5 w6 w7;refine eu (M:=EG) C.O (C.ck .sd (λh=>Fn.noConfusion h)) rfl λQz bu=>?_
 (with_reducible refine aD ?_;simp only[EG,ce,bB,ci,cu,cA,bX,aE,bE,bZ,aR,bh,mL,nI,aC,aG,gz,aw,ae2,cc,fZ,s7 w2 Xo,w3])
 refine⟨by trivial,w1,?_⟩;by_cases hm:s="-1"
 ·refine aa (if_pos (by simpa using hm) ..) ?_
  have hd:lj s (ae 1) ai=s8 s:=by refine aa (hm ..) ?_;exact agq
  have dJ:s≠"":=by refine aa (hm ..) ?_;decide
  refine⟨by refine aa (hd ..) ?_;exact RC hL w5,?_⟩;refine aa (hd ..) ?_;exact NC w5 (NE s hs) w6 (λh=>absurd h dJ) w4 w7 (bu _ _ ⟨rfl,rfl⟩)
 ·refine aa (if_neg (by simpa using hm) ..) ?_
  have hd:s8 s=s:=by unfold s8;(refine aa (if_neg hm ..) ?_;rfl)
  rw[hd]at w5 w6
  have w8:=NE s hs;rw[hd]at w8;exact NC w5 w8 w6 (λh=>by refine aa (h ..) ?_;rfl) w4 w7 (bu _ _ ⟨rfl,rfl⟩)
end
end
section
theorem adS{A:Prop}(hA:(b1=ag\/b2=ag)->A)(hB:b1=aq->b2=aq->B):
 if b1=(xo==dh)then(if b2=(xo==dh)then True/\(if(xo==dh)=ag then A else B)else(if b2=ag then A else B))else(if b1=ag then A else B):=by
 cases b1
 ·cases b2
  ·exact(⟨trivial,hB rfl rfl⟩:True/\B)
  ·exact hA (.inr rfl)
 ·exact hA (.inl rfl)
theorem rP:k∈dq b↔k<12/\b.testBit k=ag:=by simp[dq]
theorem adj(b:Nat):(dq b).Nodup:=by unfold dq;exact AC _ AH
theorem adl(b:Nat):(dq b).Pairwise (·<= ·):=by
 unfold dq;refine AC _ ?_;exact Oz.imp λh=>jy h
theorem tM(b:Nat):(dq b).length<=12:=by
 exact um _ _
theorem adg(a b:Nat):(dq a).filter (λk=>decide (k∈dq b))=dq (a&&&b):=by
 unfold dq;refine aa (Od ..) ?_;refine FO λk hk=>?_
 have dQ:=er.mp hk;rewrite[sy];have:decide (k∈(bw 12).filter λk=>b.testBit k)=b.testBit k:=by
  cases h:b.testBit k<;>simp[h,dQ]
 refine aa (this ..) ?_;rewrite[Bool.and_comm];rfl
noncomputable def cR:Option Nat->Option Nat->Option Nat
 |none,y=>y
 |x,ai=>x
 |some a,ae b=>ae (a&&&b)
theorem IV(b:Nat):(gK b).clean=ag:=yz _
theorem ac5{y:Nat}{xs:List Nat}{k:Bool->Prop}(h:k (decide (y∈xs))):cK .In (nat y) (.tup (nats xs)) H k:=by
 refine⟨λx hx=>?_,?_⟩
 ·(refine ay (bH.mp hx) ?_;rintro z aj rfl)
  exact jd rfl rfl (.inl (cJ _))
 ·have e:((nats xs).any λx=>x.eqv (nat y))=decide (y∈xs):=by
   (rewrite[ub];rewrite[mN];refine aa (decide_eq_true_eq ..) ?_)
   constructor
   ·(intro aj;refine ay aj ?_;clear aj;intro x hx h)
    refine ay (bH.mp hx) ?_;rintro z hz rfl;refine aQ (((zT.mp ((PV.iC _ _ rfl rfl).mp h))) ..) ?_;exact hz
   ·intro hy
    exact⟨nat y,bH.mpr ⟨y,hy,rfl⟩,(PV.iC _ _ rfl rfl).mpr rfl⟩
  refine aa (e ..) ?_;exact h
theorem zz(z:Option Nat):isNone (bF z)=decide (z=ai):=by cases z<;>rfl
section
variable{X:Fx}(C:eM X)
include C
theorem DP{x:Option Nat}:bC X 1 .joined [self,bF x,bF y] H (λp H'=>p=bF (cR x y)/\H'=H):=by
 have hL:aI=1000000:=rfl;refine jf (M:=Eb) C.O (C.ck .joined (λh=>Fn.noConfusion h)) rfl ?_
 (with_reducible refine aD ?_;simp only[Eb,ce,bB,ci,cu,cA,bX,aE,w_ite,be,kD,l0,lZ,ef,cc,ju,aC,sZ,aG,gs,gz,aw,zz])
 refine adS (b1:=decide (x=ai)) (b2:=decide (y=ai)) (λh=>?_) (λh1 h2=>?_)
 ·cases x with
  |none=>
   cases y
   ·(with_reducible refine aD ?_;simp only[aE,be,cf,mL,aG,gs,gz,aC,aw,cc,ju])
    simp[cR,sZ,zz]
   ·(with_reducible refine aD ?_;simp only[aE,be,cf,mL,aG,gs,gz,aC,aw,cc,ju])
    simp[cR,sZ,zz]
  |some a=>
   cases y with
   |none=>
    (with_reducible refine aD ?_;simp only[aE,be,cf,mL,aG,gs,gz,aC,aw,cc,ju])
    simp[cR,sZ,zz]
   |some b=>simp at h
 ·cases x with
  |none=>simp at h1
  |some a=>
   cases y with
   |none=>simp at h2
   |some b=>
    (with_reducible refine aD ?_;simp only[aE,be,cf,cM,aC,a0,aT,gM,gs,gz,aG,aw])
    simp only[bF,gK,fV,aw,cR];refine⟨by trivial,n4 (f:=id) (c:=λp=>match p with|.int i=>decide (i.toNat∈dq b)|_=>aq) (λx hx Q hq=>?_) (λx hx U Q hq=>?_) (by have:=tM a;refine aa (bQ ..) ?_;simp;exact qX hL this) trivial _ (λy=>rfl) λcG=>?_⟩
    ·(refine ay (bH.mp hx) ?_;rintro k hk rfl)
     simp only[aR,bh,qt,cc,aG,gs,gz,aC,aw];exact ac5 hq
    ·(refine ay (bH.mp hx) ?_;rintro k hk rfl)
     simp only[aR,bh,gs,gz,aw];exact hq
    ·refine⟨_,rfl,?_⟩
     have e:AF id (si (λp=>match p with|.int i=>decide (i.toNat∈dq b)|_=>aq) (nats (dq a)))=nats (dq (a&&&b)):=by
      rewrite[<-adg];unfold nats;refine aa (uh ..) ?_;rewrite[qB];rfl
     (rewrite[bX];refine aa (e ..) ?_)
     simp only[uY];refine⟨?_,by trivial,by trivial⟩;refine aa (bQ ..) ?_;exact qX hL (tM (a&&&b))
end
end
section
theorem adY:∀{a b:List Nat},a.Nodup->b.Nodup->(∀x,x∈a↔x∈b)->a.Perm b:=by
 intro a;induction a with
 |nil=>
  intro b _ _ h;cases b with
  |nil=>exact .nil
  |cons x b=>exact absurd ((h x).mpr ca) (by simp)
 |cons x a ih=>
  intro b ha hb h;have h1:a.Perm (b.erase x):=ih (lz.mp ha).2 (hb.erase x) λy=>by
   rewrite[hb.mem_erase_iff];constructor
   ·intro hy
    exact⟨λe=>(lz.mp ha).1 (e▸hy),(h y).mp (cI _ hy)⟩
   ·(intro aj;refine aK aj ?_;clear aj;intro h2 h3)
    exact(cH.mp ((h y).mpr h3)).resolve_left h2
  exact(h1.cons x).trans (List.perm_cons_erase ((h x).mp ca)).symm
theorem M7:∀{a b:List Nat},a.Perm b->a.Pairwise (·<= ·)->b.Pairwise (·<= ·)->a=b
 |[],b,h,_,_=>(List.nil_perm.mp h).symm▸rfl
 |x::a,[],h,_,_=>absurd h.length_eq (by simp)
 |x::a,y::b,h,ha,hb=>by
  have h1:x<=y:=by
   rcases cH.mp (h.symm.mem_iff.mp (ca (a:=y)))with e|e
   ·exact BH e
   ·exact(nN.mp ha).1 y e
  have h2:y<=x:=by
   rcases cH.mp (h.mem_iff.mp (ca (a:=x)))with e|e
   ·exact BH e
   ·exact(nN.mp hb).1 x e
  have e:x=y:=BF h1 h2;subst e;refine aa (M7 h.cons_inv (nN.mp ha).2 (nN.mp hb).2 ..) ?_;rfl
theorem afb{ks:List Nat}(hn:ks.Nodup)(h:∀k,k∈ks↔k∈dq b):dK ks=dq b:=
 M7 ((jS ks).trans (adY hn (adj b) h)) (M3 ks) (adl b)
noncomputable def dT(ks:List Nat):List (Atom×PV):=ks.map λ(k:Nat)=>(Atom.i (k:Int),PV.bool ag)
theorem yK{ks:List Nat}:dput (dT ks) (.i (k:Int)) (.bool ag)=dT (if k∈ks then ks else ks++[k]):=by
 unfold dput;have e:((dT ks).any λx=>decide (x.1=Atom.i (k:Int)))=decide (k∈ks):=by
  unfold dT;refine aa (N3 ..) ?_;rewrite[ub];rewrite[mN];refine aa (decide_eq_true_eq ..) ?_;constructor
  ·(intro aj;refine ay aj ?_;clear aj;intro x hx h)
   refine aQ (((mD (of_decide_eq_true h))) ..) ?_;exact hx
  ·intro h;exact⟨k,h,by simp⟩
 refine aa (e ..) ?_;by_cases h:k∈ks
 ·(refine aa (if_pos (by simpa using h) ..) ?_;refine aa (if_pos h ..) ?_)
  unfold dT;refine aa (cB ..) ?_;refine iO λx U=>?_;refine(?_:(if Atom.i (x:Int)=Atom.i (k:Int)then(Atom.i (x:Int),PV.bool ag)else(Atom.i (x:Int),PV.bool ag))=_);split<;>rfl
 ·(refine aa (if_neg (by simpa using h) ..) ?_;refine aa (if_neg h ..) ?_)
  unfold dT;refine aa (iN ..) ?_;rfl
noncomputable def m1:List (Option Nat)->Option (List Nat)
 |[]=>ae []
 |none::_=>ai
 |some b::r=>(m1 r).map (b:: ·)
noncomputable def ee(op:Str)(vs:List (Option Nat)):Option Nat:=(m1 vs).map (overF op)
theorem uR:∀{vs:List (Option Nat)},ai∈vs->m1 vs=ai
 |none::_,_=>rfl
 |some b::r,h=>by
  have:ai∈r:=by simpa using h
  refine(?_:(m1 r).map _=ai);refine aa (uR this ..) ?_;rfl
theorem yk:∀{vs:List (Option Nat)},ai∉vs->∃bs,m1 vs=ae bs/\vs=bs.map ae
 |[],_=>⟨[],rfl,rfl⟩
 |none::_,h=>absurd ca h
 |some b::r,h=>by
  refine ay (yk (vs:=r) (λx=>h (cI _ x))) ?_;intro bs h1 h2;exact⟨b::bs,by show(m1 r).map _=_;refine aa (h1 ..) ?_;rfl,by refine aa (h2 ..) ?_;rfl⟩
theorem adh(b:Nat)(h:b<4096):((dq b).filter λk=>decide (0<k)).map (λk=>k - 1)=dq (b/2):=by
 unfold dq;refine aa (Od ..) ?_;have e:bw 12=0::(bw 11).map (·+1):=by decide
 refine aa (e ..) ?_;refine aa (w9 ..) ?_;refine aa (if_neg (by simp) ..) ?_;refine aa (uh ..) ?_;refine aa (cB ..) ?_;have e2:(λk=>k - 1)∘(λk:Nat=>k+1)=id:=by funext k;rfl
 refine aa (e2 ..) ?_;rewrite[qB];refine aQ (e ..) ?_;have e3:bw 12=bw 11++[11]:=AJ;refine aa (e3 ..) ?_;rewrite[List.filter_append];have Y1:(b/2).testBit 11=aq:=by
  refine xn ?_;exact RD h
 refine aa ((show si (λk=>(b/2).testBit k) [11]=[]from by simp[Y1]) ..) ?_;rewrite[kI];refine FO λk U=>?_;simp[Nat.testBit_succ]
end
section
theorem adx{vs:List (Option Nat)}{k:Bool->Prop}(h:k (decide (ai∈vs))):cK .In .none (.lst (vs.map bF)) H k:=by
 have hc:∀z:Option Nat,(bF z).clean=ag:=λz=>by cases z with|none=>rfl|some b=>exact IV b
 refine⟨λx hx=>?_,?_⟩
 ·(refine ay (bH.mp hx) ?_;rintro z aj rfl)
  exact jd (hc z) rfl (.inr (cJ _))
 ·have e:((vs.map bF).any λx=>x.eqv .none)=decide (ai∈vs):=by
   (rewrite[ub];rewrite[mN];refine aa (decide_eq_true_eq ..) ?_)
   constructor
   ·(intro aj;refine ay aj ?_;clear aj;intro x hx h)
    refine ay (bH.mp hx) ?_;rintro z hz rfl
    have:=(PV.iC _ _ (hc z) rfl).mp h;cases z with
    |none=>exact hz
    |some b=>exact jw (noConfusion_of_Nat Internal.PV.ctorIdx this)
   ·intro hy
    exact⟨bF ai,bH.mpr ⟨ai,hy,rfl⟩,(PV.iC _ _ rfl rfl).mpr rfl⟩
  refine aa (e ..) ?_;exact h
noncomputable def Fk:iz:=(.cons (.ite (.cmp .In .none (.var 2)) (.cons (.ret .none) .nil) .nil) (.cons (.asg (.name 4) (.kf aq .t)) (.cons (.for (.name 5) (.var 2) (.cons (.for (.name 6) (.var 5) (.cons (.asg (.item (.var 4) (.var 6)) (.bool ag)) .nil)) .nil)) (.cons (.ite (.gE .And (.cons (.cmp .Eq (.var 1) (.str "lam")) (.cons (.cmp .Eq (.bi .len ai (.cons (.var 2) .nil)) (.int 1)) .nil))) (.cons (.ret (.bi .tupleOf ai (.cons (.comp ai 7 (.bi .sorted ai (.cons (.var 4) .nil)) (.cons (.cmp .Gt (.var 7) (.int 0)) .nil) (.bin .Sub ai (.var 7) (.int 1))) .nil))) .nil) .nil) (.cons (.ret (.bi .tupleOf ai (.cons (.bi .sorted ai (.cons (.var 4) .nil)) .nil))) .nil)))))
inductive NI(self:PV)(op:Str)(vs:List (Option Nat))(num:PV)(H:HP)(bs:List Nat)(i:Nat)(ρ:aJ)(H':HP):Prop
 |mk (h:∃q r,ρ=[ae self,ae (.str op),ae (.lst (vs.map bF)),ae num,ae (.ak (H.next .t)),q,r,ai]) (ks:List Nat) (hn:ks.Nodup) (hk:∀k,k∈ks↔k∈dq ((bs.take i).foldl (·||| ·) 0)) (hH:H'=H.push (.aH (dT ks)) .t)
inductive NJ(self:PV)(op:Str)(vs:List (Option Nat))(num:PV)(H:HP)(b:Nat)(ks:List Nat)(j:Nat)(ρ:aJ)(H':HP):Prop
 |mk (h:∃r,ρ=[ae self,ae (.str op),ae (.lst (vs.map bF)),ae num,ae (.ak (H.next .t)),ae (.tup (nats (dq b))),r,ai]) (k9:List Nat) (hn:k9.Nodup) (hk:∀k,k∈k9↔k∈ks\/k∈(dq b).take j) (hH:H'=H.push (.aH (dT k9)) .t)
section
variable{X:Fx}
theorem JN{o:aF}:(H.push o .t).get (.t H.t.length)=ae o:=nL
theorem aeX{o:aF}:(H.push o .t).set o' (.t H.t.length)=H.push o' .t:=kY rfl rfl rfl rfl MU
theorem adr{num:PV}(ho:op∈cP){vs:List (Option Nat)}(hz:vs.length<=3)(cm:∀b,ae b∈vs->b<4096)(hv:¬(gq op=ag/\vs=[])){Qz:PV->HP->Prop}(bu:∀ex,Qz (bF (ee op vs)) {H with t:=H.t++ex}):
 bd X 1 Fk [ae self,ae (.str op),ae (.lst (vs.map bF)),ae num,ai,ai,ai,ai] H (λfl U H'=>Qz (match fl with|.next=> .none|.ret p=>p) H'):=by
 have hL:aI=1000000:=rfl
 (with_reducible refine aD ?_;simp only[Fk,aE,w_ite,be,cc,ef,aG,gs,gz,aC,aw,ju])
 refine adx ?_;by_cases hn:ai∈vs
 ·refine aa (if_pos (by simpa using hn) ..) ?_
  (with_reducible refine aD ?_;simp only[aE,be,cf,ju,aC])
  have:=bu [];unfold ee at this;rw[uR hn,kI]at this;exact this
 ·refine aa (if_neg (by simpa using hn) ..) ?_
  refine ay (yk hn) ?_;intro bs e1 e2;have jK:bs.length=vs.length:=by(refine aa (e2 ..) ?_;rewrite[bp];rfl)
  have C8:∀b∈bs,b<4096:=λb hb=>cm b (by refine aa (e2 ..) ?_;exact bH.mpr ⟨b,hb,rfl⟩)
  (with_reducible refine aD ?_;simp only[aE,bE,bZ,aR,bh,mK,aC])
  simp only[dF,↓dy,if_false]
  (with_reducible refine aD ?_;simp only[aE,jr,aG,gs,gz,aC,aw])
  simp only[fV,fU,jj,aw];refine iZ (I:=NI self op vs num H bs) (R:=λU U U=>False) ⟨⟨ai,ai,rfl⟩,[],FX,λk=>by simp[rP],rfl⟩ ?_ (λi ρ H h=>trivial) ?_ (λp ρ H h=>h.elim)
  ·(intro i;intro x;intro ρ;intro H1;intro Q';intro hx;intro aj;rcases aj with⟨⟨q,r,rfl⟩,ks,bv,gJ,rfl⟩;intro cW;intro hr)
   (refine ay (by
     rw[e2,cB,dB,i9]at hx;refine ay hx ?_;clear hx;intro y c1 c2;exact⟨y,c1,c2.symm⟩:∃b,bs[i]? =ae b/\x=gK b) ?_;rintro b hb rfl)
   have fT:bs.take (i+1)=bs.take i++[b]:=by(refine aa (kK ..) ?_;refine aa (hb ..) ?_);rfl
   simp only[bZ,aR,bh]
   (with_reducible refine aD ?_;simp only[gK,aE,be,jr,aG,gs,gz,aC,aw,fV])
   refine iZ (I:=NJ self op vs num H b ks) (R:=λU U U=>False) ⟨⟨_,rfl⟩,ks,bv,λk=>by simp,rfl⟩ ?_ (λi ρ H h=>trivial) ?_ (λp ρ H h=>h.elim)
   ·(intro j;intro y;intro ρ;intro H2;intro Q2;intro hy;intro aj;rcases aj with⟨⟨r2,rfl⟩,k9,dp,tw,rfl⟩;intro tx;intro kp)
    refine ay (nx hy) ?_;rintro k hk rfl;have Dk:∀z∈k9,z<12:=λz hz=>by
     rcases(tw z).mp hz with h|h
     ·exact(rP.mp ((gJ z).mp h)).1
     ·exact(rP.mp (Ou h)).1
    simp only[bZ,aR,bh]
    (with_reducible refine aD ?_;simp only[aE,be,bE,nE,aG,gs,gz,aC,aw,lu])
    simp only[HP.next,E9 JN,IB,aw,yK,aeX];refine⟨by unfold dT;rewrite[bp];exact RE hL (ww 12 k9 dp Dk),tx _ _ ⟨⟨_,rfl⟩,_,?_,λz=>?_,rfl⟩⟩
    ·by_cases h:k∈k9
     ·refine aa (if_pos h ..) ?_;exact dp
     ·(refine aa (if_neg h ..) ?_;rewrite[l7])
      exact⟨dp,by exact qD _ _,λa ha b hb fH=>by simp at hb;subst hb fH;exact h ha⟩
    ·have aaW:(dq b).take (j+1)=(dq b).take j++[k]:=by(refine aa (kK ..) ?_;refine aa (hk ..) ?_);rfl
     refine aa (aaW ..) ?_;rewrite[d8];rewrite[eR];by_cases h:k∈k9
     ·(refine aa (if_pos h ..) ?_;rewrite[tw])
      constructor
      ·rintro(h1|h1)
       ·exact .inl h1
       ·exact .inr (.inl h1)
      ·rintro(h1|h1|h1)
       ·exact .inl h1
       ·exact .inr h1
       ·subst h1;exact(tw z).mp h
     ·(refine aa (if_neg h ..) ?_;rewrite[d8];rewrite[eR];rewrite[tw])
      constructor
      ·rintro((h1|h1)|h1)
       ·exact .inl h1
       ·exact .inr (.inl h1)
       ·exact .inr (.inr h1)
      ·rintro(h1|h1|h1)
       ·exact .inl (.inl h1)
       ·exact .inl (.inr h1)
       ·exact .inr h1
   ·(intro ρ;intro H2;intro aj;rcases aj with⟨⟨r2,rfl⟩,k9,dp,tw,rfl⟩)
    refine cW _ _ ⟨⟨_,_,rfl⟩,k9,dp,λk=>?_,rfl⟩
    (rewrite[tw];refine aa (bQ ..) ?_;refine aa (kL ..) ?_;rewrite[gJ];refine aa (fT ..) ?_;refine aa (sj ..) ?_)
    simp only[rP,lx,List.foldl_nil,OO,FE];constructor
    ·rintro(⟨h1,h2⟩|⟨h1,h2⟩)
     ·exact⟨h1,.inl h2⟩
     ·exact⟨h1,.inr h2⟩
    ·(intro aj;refine aK aj ?_;clear aj;intro h1 aB;rcases aB with h2|h2)
     ·exact .inl ⟨h1,h2⟩
     ·exact .inr ⟨h1,h2⟩
  ·(intro ρ;intro H1;intro aj;rcases aj with⟨⟨q,r,rfl⟩,ks,bv,gJ,rfl⟩)
   rw[bp,<-jK,kL]at gJ
   have hs:=afb bv gJ;have Dk:∀z∈ks,z<12:=λz hz=>(rP.mp ((gJ z).mp hz)).1
   have aae:=ww 12 ks bv Dk;have Zp:bs.foldl (·||| ·) 0<4096:=by
    have:∀(l:List Nat) (a:Nat),a<4096->(∀b∈l,b<4096)->l.foldl (·||| ·) a<4096:=by
     intro l;induction l with
     |nil=>intro a ha _;exact ha
     |cons x l ih=>
      intro a ha h;exact ih (a|||x) (OL (n:=12) ha (h x ca)) λb hb=>h b (cI _ hb)
    exact this bs 0 (by omega) C8
   have KI:∀{Q:PV->HP->Prop},Q (.lst (nats (dq (bs.foldl (·||| ·) 0)))) (H.push (.aH (dT ks)) .t)->fQ X 1 .sorted ai [.ak (H.next .t)] (H.push (.aH (dT ks)) .t) Q:=by
    intro Q hq;refine aa (Fc (f:=λk=>(k,PV.bool ag)) (xs:=ks) JN ..) ?_;refine aa (fx ..) ?_;have e3:ks.map (λx=>((λk=>(k,PV.bool ag)) x).1)=ks:=by simp
    refine aa (e3 ..) ?_;refine aa (hs ..) ?_;refine aa (bQ ..) ?_;exact⟨RF aae,qX hL (tM (bs.foldl (·||| ·) 0)),hq⟩
   have en:ee op vs=ae (overF op bs):=by unfold ee;refine aa (e1 ..) ?_;rfl
   have Kh:∃ex,H.push (.aH (dT ks)) .t={H with t:=H.t++ex}:=⟨_,rfl⟩
   (with_reducible refine aD ?_;simp only[aE,w_ite,be,kD,l0,lZ,ef,cc,cT,on,aC,cM,a0,aT,aG,gs,gz,aw,DU,bp,m4,fZ,s7 (oy op ho) Fq.2.2.2])
   refine Ce (b1:=decide (op="lam")) (b2:=decide (vs.length=1)) (Ht hz hL) (λh1 h2=>?_) (λh=>?_)
   ·(with_reducible refine aD ?_;simp only[aE,be,cf,cM,aC,a0,aT,gM,gs,gz,eP,cT,aG,aw])
    refine⟨by trivial,KI ?_⟩;simp only[fV,fU,jj,aw];refine n4 (f:=λp=>match p with|.int i=>nat (i.toNat - 1)|_=> .none) (c:=λp=>match p with|.int i=>decide (0<i.toNat)|_=>aq) (λx hx Q hq=>?_) (λx hx hc Q hq=>?_) (by have:=tM (bs.foldl (·||| ·) 0);refine aa (bQ ..) ?_;simp;exact qX hL this) trivial _ (λy=>rfl) λcG=>?_
    ·(refine ay (bH.mp hx) ?_;rintro k hk rfl)
     simp only[aR,bh,qt,cc,cT,vY,aC,aG,gs,gz,aw,IY];exact hq
    ·(refine ay (bH.mp hx) ?_;rintro k hk rfl)
     simp only[aR,bh,gs,gz,on,aw,yw (show 1<=k from(of_decide_eq_true (p:=0<k) hc))];exact hq
    ·refine⟨_,rfl,?_⟩
     have e:AF (λp=>match p with|.int i=>nat (i.toNat - 1)|_=> .none) (si (λp=>match p with|.int i=>decide (0<i.toNat)|_=>aq) (nats (dq (bs.foldl (·||| ·) 0))))=nats (dq (bs.foldl (·||| ·) 0/2)):=by
      refine aQ (adh _ Zp ..) ?_;unfold nats;refine aa (uh ..) ?_;refine aa (cB ..) ?_;refine aa (cB ..) ?_;rfl
     (rewrite[bX];refine aa (e ..) ?_)
     simp only[uY];refine⟨by refine aa (bQ ..) ?_;exact qX hL (tM (bs.foldl (·||| ·) 0/2)),?_⟩;have eo:overF op bs=bs.foldl (·||| ·) 0/2:=by
      have eA:¬(gq op=ag/\bs=[]):=λh=>hv ⟨h.1,by(refine aa (e2 ..) ?_;refine aa (h.2 ..) ?_);rfl⟩;unfold overF;refine aa (if_neg eA ..) ?_;refine aa (if_pos ⟨of_decide_eq_true h1,by refine aa ((jK) ..) ?_;exact of_decide_eq_true h2⟩ ..) ?_;rfl
     have:=bu [.aH (dT ks)];rw[en,eo]at this;exact this
   ·(with_reducible refine aD ?_;simp only[aE,be,cf,cM,aC,a0,aT,aG,gs,gz,aw])
    refine KI ?_;simp only[uY];refine⟨by refine aa (bQ ..) ?_;exact qX hL (tM (bs.foldl (·||| ·) 0)),?_⟩;have eo:overF op bs=bs.foldl (·||| ·) 0:=by
     have eA:¬(gq op=ag/\bs=[]):=λh=>hv ⟨h.1,by(refine aa (e2 ..) ?_;refine aa (h.2 ..) ?_);rfl⟩;unfold overF;refine aa (if_neg eA ..) ?_;refine aa (if_neg (λh2=>h ⟨by simpa using h2.1,by refine aQ ((jK) ..) ?_;simpa using h2.2⟩) ..) ?_;rfl
    have:=bu [.aH (dT ks)];rw[en,eo]at this;exact this
end
end
section
noncomputable def tP(op:Str):Str:=lj op ai (ae 3)
noncomputable def kz(op:Str):Str:=lj op (ae 3) ai
theorem adN:∀op∈cP,(tP op).length<=aI/\PV.clean (.str (tP op))=ag/\(kz op).length<=aI/\(tP op="var"->kz op∈Ar)/\(tP op≠"var"->gq op=aq)/\(kz op=""->gq op=aq):=by decide+kernel
theorem adL:∀op∈cP,tP op="var"->kz op≠""->(nH (kz op)).natAbs<1000000000/\(("var":Str)++(toString (nH (kz op)):String)).length<=aI/\PV.clean (.str (("var":Str)++(toString (nH (kz op)):String)))=ag/\
 (decide (0<=nH (kz op))&&decide (op=("var":Str)++(toString (nH (kz op)):String)))=gq op/\(gq op=ag->nH (kz op)=(jT op:Int)):=by decide+kernel
theorem VL{P P2 A:Prop}(hP:P)(yV:P2)(hA:b1=ag->b2=ag->A)(hB:¬(b1=ag/\b2=ag)->B):
 if b1=(dh==dh)then P/\P2/\(if b2=(dh==dh)then True/\(if(dh==dh)=ag then A else B)else(if b2=ag then A else B))else(if b1=ag then A else B):=by
 cases b1
 ·exact hB λz=>ff z.1
 ·cases b2
  ·exact(⟨hP,yV,hB λz=>ff z.2⟩:P/\P2/\B)
  ·exact(⟨hP,yV,trivial,hA rfl rfl⟩:P/\P2/\True/\A)
theorem agb:PV.clean (.str "var")=ag:=by decide+kernel
theorem adk:∀k,k<3->dq (2^k)=[k]:=by decide+kernel
theorem W6{a b:Int}{k:Bool->Prop}:cK .GtE (.int a) (.int b) H k=k (decide (b<=a)):=rfl
theorem acg:1<=aI:=by decide
theorem agc:(mU "var").length<=aI:=by decide+kernel
theorem Mb{P A:Prop}(h:B):cK .IsNot .none .none H λb=>if b=(dh==dh)then P else(if b=ag then A else B):=h
theorem adB{i:Int}{P:Prop}(h:P):cK .IsNot (.int i) .none H λb=>if b=(dh==dh)then P else B:=h
theorem adC{i:Int}{a b:Str}{P P2 A:Prop}(ha:PV.clean (.str a)=ag)(hb:PV.clean (.str b)=ag)(hP:P)(yV:P2)(hA:(decide (0<=i)&&decide (a=b))=ag->A)(hB:(decide (0<=i)&&decide (a=b))=aq->B):
 cK .GtE (.int i) (.int 0) H λb1=>if b1=(dh==dh)then P/\P2/\cK .Eq (.str a) (.str b) H λb2=>if b2=(dh==dh)then True/\(if(dh==dh)=ag then A else B)else(if b2=ag then A else B)else(if b1=ag then A else B):=by
 refine aa (W6 ..) ?_;refine aa (s7 ha hb ..) ?_;exact VL hP yV (λh1 h2=>hA (by(refine aa (h1 ..) ?_;refine aa (h2 ..) ?_);rfl)) λh=>hB (by cases h1:decide (0<=i)<;>cases h2:decide (a=b)<;>first|rfl|exact absurd ⟨h1,h2⟩ h)
theorem adt(hv:gq op=ag):ee op []=ae (2^jT op):=by
 unfold ee;refine(?_:ae (overF op [])=_);unfold overF;refine aa (if_pos ⟨hv,rfl⟩ ..) ?_;rfl
theorem age(op:Str):jT op<3:=by unfold jT;split<;>(try split)<;>decide
theorem adu(hv:gq op=ag):bF (ee op [])=.tup [nat (jT op)]:=by
 refine aa (adt hv ..) ?_;refine(?_:gK (2^jT op)=_);unfold gK;refine aa (adk _ (age op) ..) ?_;rfl
theorem W4{a b:Str}{x y:Nat}(ha:PV.clean (.str a)=ag)(hb:PV.clean (.str b)=ag){P A:Prop}(hP:P)(hA:a=b->x=y->A)(hB:¬(a=b/\x=y)->B):
 cK .Eq (.str a) (.str b) H λb1=>if b1=(dh==dh)then P/\cK .Eq (nat x) (nat y) H λb2=>if b2=(dh==dh)then True/\(if(dh==dh)=ag then A else B)else(if b2=ag then A else B)else(if b1=ag then A else B):=by
 refine aa (s7 ha hb ..) ?_;refine aa (m4 ..) ?_;exact Ce hP (λh1 h2=>hA (of_decide_eq_true h1) (of_decide_eq_true h2)) λh=>hB λzq=>by(refine aK zq ?_;clear zq;intro h1 h2);exact h ⟨decide_eq_true h1,decide_eq_true h2⟩
section
variable{X:Fx}(C:eM X)
include C
theorem Md(ho:op∈cP){vs:List (Option Nat)}(hz:vs.length<=3)(cm:∀b,ae b∈vs->b<4096):bC X 2 .mF [self,.str op,.lst (vs.map bF)] H (λp H'=>p=bF (ee op vs)/\∃ex,H'={H with t:=H.t++ex}):=by
 have hL:aI=1000000:=rfl;refine t6 (adN op ho) ?_;intro o1 o2 o3 o4 o5 o6;refine eu (M:=Er) C.O (C.ck .mF (λh=>Fn.noConfusion h)) rfl λQz bu=>?_;have fin:∀ex,Qz (bF (ee op vs)) {H with t:=H.t++ex}:=λex=>bu _ _ ⟨rfl,ex,rfl⟩;have tail:∀num,¬(gq op=ag/\vs=[])->bd X 1 Fk [ae self,ae (.str op),ae (.lst (vs.map bF)),ae num,ai,ai,ai,ai] H (λfl U H'=>Qz (match fl with|.next=> .none|.ret p=>p) H'):=λnum hv=>adr ho hz cm hv fin
 (with_reducible refine aD ?_;simp only[Er,ce,bB,ci,cu,cA,bX,aE,bE,bZ,aR,bh,mL,x_call,aC,a0,aT,nI,qe,aG,gs,gz,aw,ju,kD,l0,lZ,cc,cT,cM,fZ,fx])
 refine⟨by trivial,o1,W4 (a:=tP op) (y:=0) o2 agb (by rewrite[bp];exact Ht hz hL) (λhp h2=>?_) (λh=>?_)⟩
 ·rw[bp]at h2
  refine⟨o3,(agp C (o4 hp)).dt ?_⟩;by_cases hs:kz op=""
  ·have hw:qr (kz op)=.none:=by unfold qr;(refine aa (if_pos hs ..) ?_;rfl)
   refine aa (hw ..) ?_
   (with_reducible refine aD ?_;simp only[aE,w_ite,be,kD,l0,lZ,ef,cc,Fw,aC,aG,gs,gz,aw,cT,ju])
   exact Mb (H:=H) (tail _ λh=>by rw[o6 hs]at h;cases h.1)
  ·(refine lY (adL op ho hp hs) ?_;intro g1 g2 g3 g4 g5)
   have hw:qr (kz op)=.int (nH (kz op)):=by unfold qr;(refine aa (if_neg hs ..) ?_;rfl)
   refine aa (hw ..) ?_
   (with_reducible refine aD ?_;simp only[aE,w_ite,be,kD,l0,lZ,ef,cc,Fw,aC,aG,gs,gz,aw,adJ,cT,ju])
   refine adB (H:=H) (adC (oy op ho) g3 agc (qw g1 g2) (λh=>?_) λh=>?_)
   ·(with_reducible refine aD ?_;simp only[aE,be,cf,eQ,aC,a0,aT,aG,gs,gz,aw])
    refine⟨acg,?_⟩;have hv:gq op=ag:=g4.symm.trans h
    have:=fin [];rw[(mO.mp h2),adu hv,kI]at this;refine aa (g5 hv ..) ?_;exact this
   ·exact tail _ λhh=>by rw[<-g4,h]at hh;cases hh.1
 ·(with_reducible refine aD ?_;simp only[aE,w_ite,be,kD,l0,lZ,ef,cc,Fw,aC,aG,gs,gz,aw,cT,ju])
  refine Mb (H:=H) (tail _ ?_)
  (intro aj;refine aK aj ?_;clear aj;intro h1 h2)
  refine h ⟨uc λh3=>?_,by refine aa (h2 ..) ?_;rfl⟩;rw[o5 h3]at h1;exact ff h1
end
end
section
noncomputable def fdOf(cells:List Int)(k:Nat):aF:=.aH [(.x "cells",.lst (cL cells)),(.x "spot",nat k)]
theorem ac9:((Atom.x "cells")=Atom.x "spot")=False:=by
 refine eq_false λh=>?_;injection h with h;exact absurd h (by decide)
section
variable{X:Fx}(C:eM X){v:List aF}{cells:List Int}{K:HP->Prop}
theorem aeE{Js:aF}:(av fd σ tl v t).set Js (.s 0)=av Js σ tl v t:=rfl
theorem abq:eV (.ak (.s 0)) (.str "spot") (av (fdOf cells k) σ tl v t) Q=Q (nat k) (av (fdOf cells k) σ tl v t):=by
 refine aa (DH (show(av (fdOf cells k) σ tl v t).get (.s 0)=ae (.aH _)from rfl) ..) ?_;rfl
theorem abn:eV (.ak (.s 0)) (.str "cells") (av (fdOf cells k) σ tl v t) Q=Q (.lst (cL cells)) (av (fdOf cells k) σ tl v t):=by
 refine aa (DH (show(av (fdOf cells k) σ tl v t).get (.s 0)=ae (.aH _)from rfl) ..) ?_;rfl
theorem aed(h:K (av (fdOf cells j) σ tl v t)):jo (.ak (.s 0)) (.str "spot") (nat j) (av (fdOf cells k) σ tl v t) K:=by
 refine aa (E9 (show(av (fdOf cells k) σ tl v t).get (.s 0)=ae (.aH _)from rfl) ..) ?_;refine⟨show 2<aI by decide,?_⟩;have e:dput [(Atom.x "cells",PV.lst (cL cells)),(Atom.x "spot",nat k)] (.x "spot") (nat j)=[(Atom.x "cells",PV.lst (cL cells)),(Atom.x "spot",nat j)]:=by
  simp only[dput,oQ,N4,bB,ci,ac9,decide_false,decide_true,FC,FG,↓fw,if_true,↓dy,if_false]
 refine aa (e ..) ?_;refine aa (aeE ..) ?_;exact h
theorem Cn(ha:a<1000000000)(hb:b<1000000000)(h:Q (nat (a*b)) H):iY .Mult aY (nat a) (nat b) H Q:=by
 exact⟨⟨Hu ha,Hu hb⟩,h⟩
theorem L1{a:Int}(hm:0<m)(h:∀r,r<m->Q (nat r) H):iY .Mod aY (.int a) (nat m) H Q:=by
 refine⟨RH hm,?_⟩
 have h1:=Int.fmod_nonneg_of_pos a (show(0:Int)<m by exact Hv hm)
 have:=h (a.fmod m).toNat (RI h1 (Int.fmod_lt_of_pos a (show(0:Int)<m by exact Hv hm)));unfold nat at this;rw[Int.toNat_of_nonneg h1]at this;exact this
include C
theorem wd(hm:0<m)(hk:k<=1000)(hc:cells.length<=100):bC X 1 .draw [.ak (.s 0),nat m] (av (fdOf cells k) σ tl v t) (λp H'=>(∃r,r<m/\p=nat r)/\H'=av (fdOf cells (k+1)) σ tl v t):=by
 have hL:aI=1000000:=rfl;refine eu (M:=D5) C.O (C.ck .draw (λh=>Fn.noConfusion h)) rfl λQz bu=>?_
 (with_reducible refine aD ?_;simp only[D5,ce,bB,ci,cu,cA,bX,aE,bE,bZ,aR,bh,dM,aC,fZ,aG,gz,aw,abq])
 (with_reducible refine aD ?_;simp only[aE,bE,nE,fZ,aC,aG,gz,aw,eP,cT,on,gs,sX])
 refine aed ?_
 (with_reducible refine aD ?_;simp only[aE,be,cf,eP,aC,aG,gs,gz,aw,mL,dM,fZ,cT,cc,cM,a0,aT,abn,DU,s0])
 refine⟨by trivial,by unfold cL;rewrite[bp];exact qV hc hL,?_⟩;by_cases h:k<(cL cells).length
 ·refine aa (if_pos (by simpa using h) ..) ?_
  have h':k<cells.length:=by unfold cL at h;rwa [bp]at h
  have e:(cL cells)[k]? =ae (.int (cells.getD k 0)):=map_getD h';refine⟨RJ hk,?_⟩;refine aa ((show((k:Int).toNat)=k from rfl) ..) ?_;refine aa (e ..) ?_;rewrite[aw];exact L1 hm λr hr=>bu _ _ ⟨⟨r,hr,rfl⟩,rfl⟩
 ·refine aa (if_neg (by simpa using h) ..) ?_
  refine aa ((show PV.int 5=nat 5 from rfl) ..) ?_;refine aa ((show PV.int 7=nat 7 from rfl) ..) ?_;refine aa ((show PV.int 3=nat 3 from rfl) ..) ?_;have ii:k*k<=1000*1000:=Nat.mul_le_mul hk hk;have e5:5*k*k=5*(k*k):=OJ 5 k k;refine Cn (by omega) (BK hk) (Cn (RK hk) (BK hk) (Cn (by omega) (BK hk) ?_));simp only[sX];refine⟨⟨by omega,by decide⟩,?_⟩
  have key:=L1 (Q:=Qz) (aY:=ai) (a:=(((5*k*k+7*k+3:Nat):Int)).fdiv 2) (H:=av (fdOf cells (k+1)) σ tl v t) hm λr hr=>bu _ _ ⟨⟨r,hr,rfl⟩,rfl⟩;exact key
end
end
section
noncomputable def cy(V:List (Nat×Option Nat)):List (Atom×PV):=jk (λ(k:Nat)=>Atom.i (k:Int)) bF V
noncomputable def bM(V:List (Nat×Option Nat))(r:Nat):Option Nat:=(bc V r).getD ai
theorem XE(V:List (Nat×Option Nat))(r:Nat):(bc (cy V) (.i (r:Int))).getD .none=bF (bM V r):=by
 unfold cy bM;rewrite[yH (f:=λ(k:Nat)=>Atom.i (k:Int)) (g:=bF) (λa b=>mD)];cases bc V r<;>rfl
structure pq(T:Nat->List aF)(ki an:Nat):Prop where
 heap:∀{fd σ w v t Q},fP (.ak (.s ki)) .heap (av fd σ (T w) v t) Q=Q (.ak (.s 2)) (av fd σ (T w) v t)
 uS:∀{fd σ w v t Q},fP (.ak (.s ki)) .iB (av fd σ (T w) v t) Q=Q (.ak (.s an)) (av fd σ (T w) v t)
 vals:∀{fd σ w v t Q},fP (.ak (.s ki)) .values (av fd σ (T w) v t) Q=Q (.ak (.v w)) (av fd σ (T w) v t)
 put:∀{fd σ w w' v t} {K:HP->Prop},K (av fd σ (T w') v t)->oH (.ak (.s ki)) .values (.ak (.v w')) (av fd σ (T w) v t) K
 nr:∀{f fd σ w v t},Fn.cls f=ae .Keeper->nu (.ak (.s ki)) f (av fd σ (T w) v t)
 ou:∀{f fd σ w v t},Fn.cls f=ae .fG->nu (.ak (.s an)) f (av fd σ (T w) v t)
noncomputable def gZ(V:List (Nat×Option Nat))(f:Option Nat)(nd:Str×List Nat):Option Nat:=cR f (ee nd.1 (nd.2.map (bM V)))
section
variable{X:Fx}(C:eM X){v:List aF}{w:Nat}{T:Nat->List aF}(A:pq T ki an)
theorem wP(hv:v[w]? =ae (.aH (cy V)))(h:Q (bF (bM V r)) (av fd σ tl v t)):io .get (.ak (.v w)) [nat r] (av fd σ tl v t) Q:=by
 refine aa (acA (show(av fd σ tl v t).get (.v w)=ae (.aH (cy V))from hv) ..) ?_;rewrite[XE];exact h
theorem wF{m:LM}(hm:m=.get\/m=.jI)(hv:v[w]? =ae (.aH (cy V))):oG m (.ak (.v w)) (av fd σ tl v t):=by
 exact E6 hm hv
include C A
theorem Fs{E:List Nat}(I:Inv σ ps E)(ha:a<σ.up.length)(hv:v[w]? =ae (.aH (cy V))):bC X 3 .value [.ak (.s ki),nat a] (av fd σ (T w) v t) (λp H'=>p=bF (bM V (root σ.up a))/\H'=av fd σ (T w) v t):=by
 have hL:aI=1000000:=rfl;refine jf (M:=EF) C.O (C.ck .value (λh=>Fn.noConfusion h)) rfl ?_
 (with_reducible refine aD ?_;simp only[EF,ce,bB,ci,cu,cA,bX,aE,be,cf,fD,aC,a0,aT,de,aG,gs,gz,aw,ch,A.vals,A.heap])
 refine⟨wF (by exact .inl rfl) hv,fX rfl,(nf C.toOk I.fo ha (gR hL I.n)).dt ?_⟩;exact wP hv ⟨rfl,rfl⟩
theorem aei{E:List Nat}(I:Inv σ ps E)(aZ:σ.ops.length=σ.up.length)(ji:∀nd∈σ.ops,nd.1∈cP)(ha:a<σ.up.length)(hv:v[w]? =ae (.aH (cy V)))(hb:∀r b,bM V r=ae b->b<4096):
 bC X 5 .p9 [.ak (.s ki),nat a] (av fd σ (T w) v t) (λp H'=>(∃ys:List (Str×List Nat),(∀y,y∈ys↔∃(n:Nat) (nd:Str×List Nat),σ.ops[n]? =ae nd/\root σ.up n=root σ.up a/\y=canon σ.up nd)/\p=bF (ys.foldl (gZ V) (bM V a)))/\∃ex,H'=av fd σ (T w) v (t++ex)):=by
 have hL:aI=1000000:=rfl
 have hN:=I.n;refine eu (M:=Eu) C.O (C.ck .p9 (λh=>Fn.noConfusion h)) rfl λQz bu=>?_
 (with_reducible refine aD ?_;simp only[Eu,ce,bB,ci,cu,cA,bX,aE,bE,bZ,aR,bh,fD,aC,a0,aT,aG,gs,gz,aw,ch,A.vals])
 refine⟨wF (by exact .inl rfl) hv,wP hv ?_⟩
 (with_reducible refine aD ?_;simp only[aE,jr,de,aC,a0,aT,aG,gs,gz,aw,ch])
 simp only[A.heap];refine⟨fX rfl,(adv C I aZ ji ha).mono ?_⟩
 (intro p;intro H';intro aj;refine aK aj ?_;clear aj;intro aB aS;refine ay aB ?_;clear aB;rintro ys no rfl;rcases aS with rfl)
 simp only[fV,fU,jj,aw];refine iZ (I:=λi ρ H'=>(∃q r,ρ=[ae (.ak (.s ki)),ae (nat a),ae (bF ((ys.take i).foldl (gZ V) (bM V a))),q,r,ai])/\∃ex,H'=av fd σ (T w) v (t++ex)) (R:=λU U U=>False) ⟨⟨ai,ai,rfl⟩,[],by simp⟩ ?_ (λi ρ H h=>trivial) ?_ (λp ρ H h=>h.elim)
 ·(intro i;intro x;intro ρ;intro H1;intro Q';intro hx;intro aj;refine aK aj ?_;clear aj;intro aB aS;refine eC aB ?_;clear aB;rintro q r rfl;refine aM aS ?_;clear aS;rintro ex rfl;intro cW;intro hr)
  (refine ay (by
    rw[dB,i9]at hx;refine ay hx ?_;clear hx;intro y c1 c2;exact⟨y,c1,c2.symm⟩:∃y,ys[i]? =ae y/\x=bk y) ?_;rintro y hy rfl)
  refine kC ((no _).mp (eD hy)) ?_;rintro n nd h1 h2 rfl;have hn:n<σ.up.length:=by refine aQ (aZ ..) ?_;exact(bJ.mp h1).1
  have dR:=(I.dz n nd h1).2;have gH:(canon σ.up nd).2.length<=2:=by unfold canon;rewrite[bp];exact dR
  have aav:(canon σ.up nd).1∈cP:=ji nd (eD h1);have fT:ys.take (i+1)=ys.take i++[canon σ.up nd]:=by(refine aa (kK ..) ?_;refine aa (hy ..) ?_);rfl
  generalize canon σ.up nd=cn at*
  (simp only[bZ,aR,bh];with_reducible refine aD ?_;simp only[aE,Aq,aR,bh,gM,gs,gz,fD,aC,a0,aT,aG,ch,nI,aw])
  refine⟨by trivial,?_⟩;refine aa (tT (BL hL gH) ..) ?_;simp only[fV,fU,jj,aw];refine m7 (f:=λp=>match p with|.int i=>bF (bM V i.toNat)|_=> .none) (λρ H Q h=>h) (λx hx Q hq=>?_) (by refine aa (bQ ..) ?_;exact BM hL gH) trivial λcG=>?_
  ·(refine ay (bH.mp hx) ?_;rintro k hk rfl)
   simp only[aR,bh,gz,gs,aw,A.vals];exact⟨wF (by exact .inl rfl) hv,wP hv hq⟩
  ·refine⟨_,rfl,?_⟩
   have e1:(nats cn.2).map (λp=>match p with|.int i=>bF (bM V i.toNat)|_=> .none)=(cn.2.map (bM V)).map bF:=by
    unfold nats;(refine aa (cB ..) ?_;refine aa (cB ..) ?_);rfl
   refine aa (e1 ..) ?_
   (with_reducible refine aD ?_;simp only[aE,be,bE,bZ,aR,bh,de,aC,a0,aT,aG,gs,gz,aw,dM,cT,ch])
   simp only[A.uS];refine⟨A.ou rfl,A.ou rfl,?_⟩;have i0:∀{H:HP} {Q:PV->HP->Prop},Q (.str cn.1) H->eV (bk cn) (.int 0) H Q:=by
    intro H Q h;refine(?_:(0<=(0:Int)/\(0:Int)<2^60)/\ok ((PV.str cn.1::nats cn.2)[i8 0]?) λr=>Q r H);exact⟨by decide,h⟩
   refine i0 ?_;refine((Md C aav (vs:=cn.2.map (bM V)) (by rewrite[bp];exact F1 gH) (λb vA=>?_)).le (by omega)).mono ?_
   ·(refine ay (bH.mp vA) ?_;intro k aj hk)
    exact hb k b hk
   ·(intro p;intro H';intro aj;refine aK aj ?_;clear aj;rintro rfl aS;refine aM aS ?_;clear aS;rintro ne rfl)
    refine((DP C).le (by omega)).dt ?_;refine cW _ _ ⟨⟨ae (bk cn),ae (.lst ((cn.2.map (bM V)).map bF)),?_⟩,ex++ne,?_⟩
    ·(refine aa (fT ..) ?_;refine aa (sj ..) ?_);rfl
    ·exact kY rfl rfl rfl rfl (kH ..)
 ·(intro ρ;intro H1;intro aj;refine aK aj ?_;clear aj;intro aB aS;refine eC aB ?_;clear aB;rintro q r rfl;refine aM aS ?_;clear aS;rintro ex rfl)
  (rewrite[bp];refine aa (kL ..) ?_)
  (with_reducible refine aD ?_;simp only[aE,be,cf,aG,gs,gz,aC,aw])
  with_reducible refine bu _ _ ?_
  exact⟨⟨ys,no,rfl⟩,ex,rfl⟩
end
end
section
noncomputable def pD(up:List Nat)(V D:List (Nat×Option Nat))(c:Nat):List (Nat×Option Nat):=dput D (root up c) (cR (bM D (root up c)) (bM V c))
noncomputable def sW(up:List Nat)(V:List (Nat×Option Nat)):List (Nat×Option Nat):=(dK (V.map (·.1))).foldl (pD up V) []
theorem Je(D:List (Nat×Option Nat))(r:Nat)(x:Option Nat):dput (cy D) (.i (r:Int)) (bF x)=cy (dput D r x):=by
 unfold cy;exact CF (f:=λ(k:Nat)=>Atom.i (k:Int)) (g:=bF) (λa b=>mD) D r x
theorem acY(h:c∈V.map (·.1)):∃x,bc V c=ae x:=by
 induction V with
 |nil=>simp at h
 |cons y V ih=>
  refine aa (lH ..) ?_;by_cases e:y.1=c
  ·refine aa (if_pos e ..) ?_;exact⟨_,rfl⟩
  ·refine aa (if_neg e ..) ?_
   refine ih ?_;rw[bB]at h;exact(cH.mp h).resolve_left (λz=>e z.symm)
section
variable{X:Fx}(C:eM X){v:List aF}{w:Nat}{T:Nat->List aF}(A:pq T ki an)
theorem aeb{o:aF}:(av fd σ tl v t).push o .v=av fd σ tl (v++[o]) t:=rfl
theorem adf:(av fd σ tl v t).next .v=.v v.length:=rfl
theorem MV{o:aF}:(av fd σ tl (v++[o]) t).set o' (.v v.length)=av fd σ tl (v++[o']) t:=kY rfl rfl rfl MU rfl
include C A
theorem Wa{E:List Nat}(I:Inv σ ps E)(hv:v[w]? =ae (.aH (cy V)))(hk:∀c∈V.map (·.1),c<σ.up.length)(hl:V.length<=16):
 bC X 3 .begun [.ak (.s ki)] (av fd σ (T w) v t) (λp H'=>p=.none/\H'=av fd σ (T v.length) (v++[.aH (cy (sW σ.up V))]) t):=by
 have hL:aI=1000000:=rfl
 have hN:=I.n;have hw:w<v.length:=(bJ.mp hv).1;refine eu (M:=D2) C.O (C.ck .begun (λh=>Fn.noConfusion h)) rfl λQz bu=>?_
 (with_reducible refine aD ?_;simp only[D2,ce,bB,ci,cu,cA,bX,aE,bE,bZ,aR,bh,mK,adf,↓dy,aeb,aC])
 (with_reducible refine aD ?_;simp only[aE,jr,cM,aC,a0,aT,ch,aG,gz,aw,A.vals])
 have eA:∀o:aF,(v++[o])[w]? =ae (.aH (V.map λx=>(.i (((λy:Nat×Option Nat=>(y.1,bF y.2)) x).1:Int),((λy:Nat×Option Nat=>(y.1,bF y.2)) x).2))):=λo=>by
  (refine aa (nK ..) ?_;refine aa (if_pos hw ..) ?_;refine aa (hv ..) ?_);rfl
 have hg:(av fd σ (T w) (v++[aF.aH []]) t).get (.v w)=ae (.aH (V.map λx=>(.i (((λy:Nat×Option Nat=>(y.1,bF y.2)) x).1:Int),((λy:Nat×Option Nat=>(y.1,bF y.2)) x).2))):=eA _;refine aa (Fc (f:=λy:Nat×Option Nat=>(y.1,bF y.2)) hg ..) ?_;refine aa (fx ..) ?_;have e3:V.map (λx=>((λy:Nat×Option Nat=>(y.1,bF y.2)) x).1)=V.map (·.1):=rfl;refine aa (e3 ..) ?_;have hlen:(dK (V.map (·.1))).length<=16:=by(refine aa (((jS _).length_eq) ..) ?_;rewrite[bp]);exact hl
 have iF:∀c∈dK (V.map (·.1)),c∈V.map (·.1):=λc h=>(jS _).mem_iff.mp h;refine⟨x5 hl,by refine aa (bQ ..) ?_;exact gR hL hlen,?_⟩;simp only[fV,fU,jj,aw];generalize y0:dK (V.map (·.1))=cs at*;refine iZ (I:=λi ρ H'=>(∃q r,ρ=[ae (.ak (.s ki)),ae (.ak (.v v.length)),q,r])/\((cs.take i).foldl (pD σ.up V) []).length<=i/\H'=av fd σ (T w) (v++[.aH (cy ((cs.take i).foldl (pD σ.up V) []))]) t) (R:=λU U U=>False) ⟨⟨ai,ai,rfl⟩,bj _,rfl⟩ ?_ (λi ρ H h=>trivial) ?_ (λp ρ H h=>h.elim)
 ·(intro i;intro x;intro ρ;intro H1;intro Q';intro hx;intro aj;refine aK aj ?_;clear aj;intro aB aS;refine eC aB ?_;clear aB;rintro q r rfl;refine aK aS ?_;clear aS;rintro Dn rfl;intro cW;intro hr)
  refine ay (nx hx) ?_;rintro c hc rfl
  have yZ:=iF c (eD hc)
  have gH:=hk c yZ;have iD:i<cs.length:=(bJ.mp hc).1;refine aM (acY yZ) ?_;intro x KO;have fT:cs.take (i+1)=cs.take i++[c]:=by(refine aa (kK ..) ?_;refine aa (hc ..) ?_);rfl
  rw[fT,sj]at cW;generalize hD:(cs.take i).foldl (pD σ.up V) []=D at*
  (simp only[bZ,aR,bh];with_reducible refine aD ?_;simp only[aE,bE,bZ,aR,bh,de,aC,a0,aT,aG,gs,gz,aw,ch,A.heap])
  refine⟨fX rfl,((nf C.toOk I.fo gH (gR hL hN)).le (by omega)).dt ?_⟩
  (with_reducible refine aD ?_;simp only[aE,be,bE,nE,aG,gs,gz,aC,aw,de,a0,aT,dM,ch,fD,A.uS])
  have gv:(v++[aF.aH (cy D)])[v.length]? =ae (.aH (cy D)):=by exact nL
  refine⟨A.ou rfl,wF (by exact .inl rfl) gv,wP gv ?_⟩;simp only[A.vals];have gi:∀{Q:PV->HP->Prop},Q (bF (bM V c)) (av fd σ (T w) (v++[aF.aH (cy D)]) t)->eV (.ak (.v w)) (nat c) (av fd σ (T w) (v++[aF.aH (cy D)]) t) Q:=by
   intro Q hq;have e:(av fd σ (T w) (v++[aF.aH (cy D)]) t).get (.v w)=ae (.aH (cy V)):=by
    refine(?_:(v++[aF.aH (cy D)])[w]? =_);refine aa (nK ..) ?_;refine aa (if_pos hw ..) ?_;refine aa (hv ..) ?_;rfl
   refine aa (zw e ..) ?_;have e2:bc (cy V) (.i (c:Int))=ae (bF x):=by
    unfold cy
    (rewrite[yH (f:=λ(k:Nat)=>Atom.i (k:Int)) (g:=bF) (λa b=>mD)];refine aa (KO ..) ?_);rfl
   refine aa (e2 ..) ?_;have e4:bM V c=x:=by unfold bM;refine aa (KO ..) ?_;rfl
   rw[e4]at hq;exact hq
  refine gi ?_;refine((DP C).le (by omega)).dt ?_;have gd:(av fd σ (T w) (v++[aF.aH (cy D)]) t).get (.v v.length)=ae (.aH (cy D)):=gv;refine aa (wG gd ..) ?_;rewrite[Je];refine aa (MV ..) ?_;refine⟨by unfold cy jk;rewrite[bp];exact Hw hL hlen iD Dn,?_⟩;refine cW _ _ ⟨⟨_,_,rfl⟩,?_,rfl⟩;exact dC (n6 _ _ _) (ON Dn)
 ·(intro ρ;intro H1;intro aj;refine aK aj ?_;clear aj;intro aB aS;refine eC aB ?_;clear aB;rintro q r rfl;refine aK aS ?_;clear aS;rintro Dn rfl)
  refine aa (bQ ..) ?_;refine aa (kL ..) ?_
  (with_reducible refine aD ?_;simp only[aE,be,bE,fY,aG,gz,aC,aw,gs])
  refine A.put ?_;with_reducible refine bu _ _ ?_
  refine⟨rfl,?_⟩;unfold sW;refine aa (y0 ..) ?_;rfl
end
end
section
theorem zU(h:nd.1∈cP):(bk nd).clean=ag:=by
 refine(?_:(PV.clean (.str nd.1)&&PV.m3 (nats nd.2))=ag)
 (refine aa (((oy _ h)) ..) ?_;rewrite[yz]);rfl
theorem ac6:(bk nd).rm<=60:=by
 refine(?_:PV.m9 (PV.str nd.1::nats nd.2)+1<=60);refine(?_:max 0 (PV.m9 (nats nd.2))+1<=60);rewrite[CA];decide
theorem Jm(h:nd.1∈cP){k:Bool->Prop}(hk:k ag):cK .Eq (bk nd) (bk nd) H k:=by
 refine(?_:_/\k ((bk nd).eqv (bk nd)));refine aa ((((PV.iC _ _ (zU h) (zU h)).mpr rfl)) ..) ?_;exact⟨jd (zU h) (zU h) (.inl ac6),hk⟩
section
variable{X:Fx}(C:eM X){v:List aF}
theorem lJ{o:aF}:(av fd σ (o::tl) v t).get (.s 19)=ae o:=rfl
theorem aeJ{o:aF}:(av fd σ (o::tl) v t).set o' (.s 19)=av fd σ (o'::tl) v t:=rfl
include C
theorem Vx{ks:List Nat}(I:Inv σ ps σ.wait)(aZ:σ.ops.length=σ.up.length)(eG:ps.length<=100)(hw:σ.dd.length=σ.ops.length)(hd:σ.db.length=σ.ops.length)(ho:op∈cP)(hk:∀k∈ks,k<σ.up.length)(dR:ks.length<=2)(cm:σ.ops.length<16):
 bC X 6 .added [hH,.ak (.s 19),.str op,.tup (nats ks)] (av fd σ (.list (σ.ops.map bk)::tl) v t) (λp H'=>p=.bool ag/\∃τ,H'=av fd τ (.list (τ.ops.map bk)::tl) v t/\Inv τ ps τ.wait/\τ.ops.length=τ.up.length/\τ.dd.length=τ.ops.length/\τ.db.length=τ.ops.length/\
  (τ.ops=σ.ops\/τ.ops=σ.ops++[(op,ks)])/\0<τ.ops.length):=by
 have hL:aI=1000000:=rfl;refine eu (M:=D0) C.O (C.ck .added (λh=>Fn.noConfusion h)) rfl λQz bu=>?_
 (with_reducible refine aD ?_;simp only[D0,ce,bB,ci,cu,cA,bX,aE,bE,bZ,aR,bh,de,aC,a0,aT,aG,gs,gz,aw])
 refine⟨fX rfl,(Vu C I aZ eG hw hd ho hk dR cm).mono ?_⟩
 (intro p;intro H';intro aj;refine ay aj ?_;clear aj;rintro τ rfl aS;refine lY aS ?_;clear aS;intro J j1 j2 j3 dv;rcases dv with⟨i,hi,rfl,e⟩|⟨rfl,e⟩)
 ·have iD:=(bJ.mp hi).1
  (with_reducible refine aD ?_;simp only[aE,w_ite,be,cc,ef,cM,aC,a0,aT,aG,gs,gz,aw,jO lJ,bp,m4])
  refine⟨x6 cm hL,?_⟩;refine aa (if_neg (by simp;exact qW iD) ..) ?_
  (with_reducible refine aD ?_;simp only[aE,be,cf,cc,eP,aC,aG,gs,gz,aw,eQ,a0,aT,dM])
  refine aa (nq lJ (x:=bk (op,ks)) (by simp[hi]) (RM cm hL iD) ..) ?_;simp only[uZ];refine⟨by exact bR rfl,by refine aa (bQ ..) ?_;simp;exact xY dR hL,?_⟩;exact Jm (nd:=(op,ks)) ho (bu _ _ ⟨rfl,τ,by(refine aa (e ..) ?_;rfl),J,j1,j2,j3,.inl e,by refine aa (e ..) ?_;exact RN iD⟩)
 ·(with_reducible refine aD ?_;simp only[aE,w_ite,be,cc,ef,cM,aC,a0,aT,aG,gs,gz,aw,jO lJ,bp,m4])
  refine⟨x6 cm hL,?_⟩;refine aa (if_pos (by rfl) ..) ?_
  (with_reducible refine aD ?_;simp only[aE,be,fq,fD,aC,a0,aT,eP,aG,gs,gz,aw,eQ])
  refine⟨jn (by exact .inl rfl) lJ,by exact bR rfl,?_⟩;simp only[uZ];refine⟨by refine aa (bQ ..) ?_;simp;exact xY dR hL,?_⟩;refine aa (j9 lJ ..) ?_;refine aa (aeJ ..) ?_;refine⟨by simp;exact RO cm hL,rfl,?_⟩
  (with_reducible refine aD ?_;simp only[cA,bX,aE,be,cf,cc,eP,aC,aG,gs,gz,aw,eQ,a0,aT,dM])
  refine aa (nq lJ (x:=bk (op,ks)) (by(refine aa ((nK) ..) ?_;refine aa ((if_neg (by simp)) ..) ?_);simp[bk]) (x6 cm hL) ..) ?_;simp only[uZ];refine⟨by exact bR rfl,by refine aa (bQ ..) ?_;simp;exact xY dR hL,?_⟩;refine Jm (nd:=(op,ks)) ho (bu _ _ ⟨rfl,τ,?_,J,j1,j2,j3,.inr e,by(refine aa (e ..) ?_;refine aa (bS ..) ?_);exact xm _⟩);refine aa (e ..) ?_;refine aa (iN ..) ?_;rfl
end
end
section
theorem wg{α:Type}{xs:List α}{x y:α}(h:xs[i]? =ae x):(xs.set i y).set i x=xs:=by
 rewrite[List.set_set];refine sh λj=>?_;refine aa (uj ..) ?_
 have hl:=(bJ.mp h).1;by_cases e:i=j
 ·subst e;(refine aa (if_pos rfl ..) ?_;refine aa (if_pos hl ..) ?_;refine aa (h ..) ?_;rfl)
 ·(refine aa (if_neg e ..) ?_;rfl)
theorem aeP{o:aF}(h:H.get l=ae o):(H.set o' l).set o l=H:=by
 cases l<;>first
  |exact kY (wg h) rfl rfl rfl rfl
  |exact kY rfl (wg h) rfl rfl rfl
  |exact kY rfl rfl (wg h) rfl rfl
  |exact kY rfl rfl rfl (wg h) rfl
  |exact kY rfl rfl rfl rfl (wg h)
  |exact ns h
theorem JM{o:aF}(h:H.get l=ae o):(H.set o' l).get l=ae o':=by
 refine aa (HP.get_set H o' l l (by refine aa ((h) ..) ?_;rfl) ..) ?_;refine aa (if_pos rfl ..) ?_;rfl
section
variable{X:Fx}(C:eM X)
include C
theorem adb(h:H.get l=ae (.aH (dT bs))):bC X 2 .rR [.ak l] H (λp H'=>p=gK (bs.foldl (·&&& ·) 4095)/\H'=H):=by
 refine eu (M:=En) C.O (C.ck .rR (λh=>Fn.noConfusion h)) rfl λQz bu=>?_
 (with_reducible refine aD ?_;simp only[En,ce,bB,ci,cu,cA,bX,aE,bE,bZ,aR,bh,cT,aC])
 (with_reducible refine aD ?_;simp only[aE,agk,aR,aG,gz,aC,aw,h])
 intro o;have e:(dT bs).map (λx=>x.1.pv)=nats bs:=by unfold dT nats;refine aa (cB ..) ?_;rfl
 refine aa (e ..) ?_;refine aa ((show PV.int 4095=nat 4095 from rfl) ..) ?_;refine iZ (I:=λi ρ H'=>(∃q,ρ=[ae (.ak l),ae (nat ((bs.take i).foldl (·&&& ·) 4095)),q])/\H'=H.set (.fB o (dT bs)) l) (R:=λU U U=>False) ⟨⟨ai,rfl⟩,rfl⟩ ?_ (λi ρ H' h'=>by refine aa (h'.2 ..) ?_;exact JM h) ?_ (λp ρ H h=>h.elim)
 ·(intro i;intro x;intro ρ;intro H1;intro Q';intro hx;intro aj;refine aK aj ?_;clear aj;intro aB aS;refine aM aB ?_;clear aB;rintro q rfl;rcases aS with rfl;intro cW;intro hr)
  refine ay (nx hx) ?_;rintro y hy rfl;have fT:bs.take (i+1)=bs.take i++[y]:=by(refine aa (kK ..) ?_;refine aa (hy ..) ?_);rfl
  (with_reducible refine aD ?_;simp only[bh,aE,be,bE,bZ,aR,eP,aC,aG,gs,gz,aw,IH])
  refine cW _ _ ⟨⟨ae (nat y),?_⟩,rfl⟩;refine aa (fT ..) ?_;refine aa (sj ..) ?_;rfl
 ·(intro ρ;intro H1;intro aj;refine aK aj ?_;clear aj;intro aB aS;refine aM aB ?_;clear aB;rintro q rfl;rcases aS with rfl)
  refine⟨JM h,?_⟩;refine aa (aeP h ..) ?_;refine aa (bQ ..) ?_;refine aa (kL ..) ?_
  (with_reducible refine aD ?_;simp only[aE,be,cf,x_call,aC,a0,aT,aG,gs,gz,aw])
  exact((zS C).le (by omega)).mono λp H' x=>bu _ _ x
end
end
section
noncomputable def eH(p:Nat×Nat):PV:=.tup [nat p.1,nat p.2]
section
variable{X:Fx}(C:eM X){v:List aF}
theorem yU{o:aF}:(av fd σ (o::o'::tl) v t).get (.s 20)=ae o':=rfl
theorem aeK{o:aF}:(av fd σ (o::o'::tl) v t).set o2 (.s 20)=av fd σ (o::o2::tl) v t:=rfl
noncomputable def LB:List PV:=[.str "var0",.str "var1",.str "var2",.str "c",.str "var",.str "var01",.str "var-1"]
include C
theorem LC:bC X 1 .pV [] H (λp H'=>p=.lst LB/\H'=H):=by
 have hL:aI=1000000:=rfl;refine jf (M:=Ef) C.O (C.ck .pV (λh=>Fn.noConfusion h)) rfl ?_
 (with_reducible refine aD ?_;simp only[Ef,ce,ci,cu,bX,aE,be,cf,fr,aC,fx,a0,aT,fZ])
 exact⟨by refine aa (hL ..) ?_;decide,rfl,by trivial⟩
end
end
section
structure Full(σ:St)(ps:List (Nat×Nat)):Prop where
 I:Inv σ ps σ.wait
 all:σ.ops.length=σ.up.length
 w:σ.dd.length=σ.ops.length
 d:σ.db.length=σ.ops.length
 o:∀nd∈σ.ops,nd.1∈cP
structure mZ(σ τ:St)(ps eJ:List (Nat×Nat)):Prop where
 ops:∀(m:Nat) nd,σ.ops[m]? =ae nd->τ.ops[m]? =ae nd
 E3:∀p∈ps,p∈eJ
theorem mZ.aeo(σ:St)(ps:List (Nat×Nat)):mZ σ σ ps ps:=⟨λm nd h=>h,λp h=>h⟩
theorem mZ.trans{υ:St}{tQ:List (Nat×Nat)}(a:mZ σ τ ps eJ)(b:mZ τ υ eJ tQ):mZ σ υ ps tQ:=⟨λm nd h=>b.ops m nd (a.ops m nd h),λp h=>b.E3 p (a.E3 p h)⟩
section
variable{X:Fx}(C:eM X){v:List aF}{cells:List Int}
noncomputable def lq(cells:List Int)(k:Nat)(σ:St)(ps:List (Nat×Nat))(tl v t:List aF):HP:=av (fdOf cells k) σ (.list (σ.ops.map bk)::.list (ps.map eH)::tl) v t
include C
theorem Ir{ks:List Nat}(F:Full σ ps)(eG:ps.length<=100)(ho:op∈cP)(hk:∀x∈ks,x<σ.ops.length)(dR:ks.length<=2)(cm:σ.ops.length<16):
 bC X 6 .added [hH,.ak (.s 19),.str op,.tup (nats ks)] (lq cells k σ ps tl v t) (λp H'=>p=.bool ag/\∃τ,H'=lq cells k τ ps tl v t/\Full τ ps/\σ.ops.length<=τ.ops.length/\τ.ops.length<=σ.ops.length+1/\0<τ.ops.length/\mZ σ τ ps ps):=by
 refine(Vx C F.I F.all eG F.w F.d ho (λx hx=>by refine aQ (F.all ..) ?_;exact hk x hx) dR cm).mono ?_
 (intro p;intro H';intro aj;refine aK aj ?_;clear aj;rintro rfl aS;refine ay aS ?_;clear aS;rintro τ rfl cO;refine t6 cO ?_;clear cO;intro J j1 j2 j3 h vK)
 refine⟨rfl,τ,rfl,⟨J,j1,j2,j3,λnd bv=>?_⟩,?_⟩
 ·rcases h with h|h
  ·rw[h]at bv;exact F.o nd bv
  ·rw[h]at bv
   rcases d8.mp bv with h2|h2
   ·exact F.o nd h2
   ·simp at h2;refine aa (h2 ..) ?_;exact ho
 ·rcases h with h|h
  ·exact⟨by refine aa (h ..) ?_;exact bj _,by refine aa (h ..) ?_;exact gQ,vK,λm nd hm=>by refine aa (h ..) ?_;exact hm,λp hp=>hp⟩
  ·exact⟨by(refine aa (h ..) ?_;refine aa (bS ..) ?_);exact sS,by(refine aa (h ..) ?_;refine aa (bS ..) ?_);simp,vK,λm nd hm=>by(refine aa (h ..) ?_;refine aa (ui (bJ.mp hm).1 ..) ?_);exact hm,λp hp=>hp⟩
end
end
section
theorem str_len:∀m,m<120->(mU "t").length+(mU (toString (i7 m))).length<=aI:=by decide+kernel
theorem zI:1<=aI:=by decide
theorem tG:2<=aI:=by decide
theorem Ly:3<=aI:=by decide
theorem Ct{P R:Prop}(h1:a=b->P)(h2:a≠b->R):cK .Eq (nat a) (nat b) H λb=>if b=ag then P else R:=by
 refine aa (m4 ..) ?_;by_cases h:a=b
 ·refine aa (if_pos (by simpa using h) ..) ?_;exact h1 h
 ·refine aa (if_neg (by simpa using h) ..) ?_;exact h2 h
theorem Cu{a b:Str}{P R:Prop}(ha:a∈cP)(hb:b∈cP)(h1:a=b->P)(h2:a≠b->R):cK .Eq (.str a) (.str b) H λb=>if b=ag then P else R:=by
 refine aa (s7 (oy _ ha) (oy _ hb) ..) ?_;by_cases h:a=b
 ·refine aa (if_pos (by simpa using h) ..) ?_;exact h1 h
 ·refine aa (if_neg (by simpa using h) ..) ?_;exact h2 h
theorem zO(h:a<N):∀z∈[a],z<N:=λz hz=>by
 rw[eR]at hz;refine aa (hz ..) ?_;exact h
theorem LU(h:a<N)(h':b<N):∀z∈[a,b],z<N:=λz hz=>by
 rcases cH.mp hz with rfl|hz
 ·exact h
 ·exact zO h' z hz
theorem Xw:(mU "lam")∈cP/\(mU "app")∈cP/\(mU "f")∈cP/\(mU "var1")∈cP:=by decide+kernel
theorem abl{a b c:PV}(hz:z<3)(h0:Q a H)(h1:Q b H)(h2:Q c H):eV (.lst [a,b,c]) (nat z) H Q:=by
 refine(?_:(0<=(z:Int)/\(z:Int)<2^60)/\ok ([a,b,c][(z:Int).toNat]?) λr=>Q r H);refine aa ((show(z:Int).toNat=z from rfl) ..) ?_;refine⟨RP hz,?_⟩;rcases(show z=0\/z=1\/z=2 by exact RQ hz)with rfl|rfl|rfl
 ·exact h0
 ·exact h1
 ·exact h2
theorem Xx{X:Fx}(hm:m<120)(hq:∀z:Str,Q (.str z) H):fQ X 6 .strOf ai [nat m] H λq H2=>iY .Add ai (.str "t") q H2 Q:=by
 refine⟨RR hm,?_⟩;exact⟨rfl,str_len m hm,hq _⟩
section
variable{X:Fx}(C:eM X){v:List aF}{cells:List Int}
include C
theorem ta{n:Nat}(hn:1<=n)(hm:0<m)(hk:k<=1000)(hc:cells.length<=100)(hq:∀r,r<m->Q (nat r) (av (fdOf cells (k+1)) σ tl v t)):bC X n .draw [.ak (.s 0),nat m] (av (fdOf cells k) σ tl v t) Q:=
 ((wd C hm hk hc).le hn).mono λp H' x=>by
   (refine aK x ?_;clear x;intro aj aB;refine ay aj ?_;clear aj;rintro r h rfl;rcases aB with rfl);exact hq r h
theorem Jh{n:Nat}(hn:1<=n)(h0:0<σ.ops.length)(cm:σ.ops.length<16)(hk:k<=1000)(hc:cells.length<=100)(hq:∀r,r<σ.ops.length->Q (nat r) (lq cells (k+1) σ ps tl v t)):fQ X n .len ai [.ak (.s 19)] (lq cells k σ ps tl v t) λq H2=>bC X n .draw [.ak (.s 0),q] H2 Q:=by
 have hL:aI=1000000:=rfl;unfold lq;refine aa (tH lJ (bp _) ..) ?_;exact⟨x6 cm hL,ta C hn h0 hk hc hq⟩
def GZ(cells:List Int)(k:Nat)(σ:St)(ps:List (Nat×Nat))(tl v t:List aF)(p:PV)(H':HP):Prop:=p=.bool ag/\∃k' τ eJ,k'<=k+4/\H'=lq cells k' τ eJ tl v t/\Full τ eJ/\σ.ops.length<=τ.ops.length/\τ.ops.length<=σ.ops.length+1/\eJ.length<=ps.length+1/\mZ σ τ ps eJ
theorem u8{ks:List Nat}(F:Full σ ps)(eG:ps.length<=90)(cm:σ.ops.length<16)(ho:op∈cP)(h2:ks.length<=2)(h3:∀z∈ks,z<σ.ops.length)(hj:j<=k+4)(hq:∀p H',GZ cells k σ ps tl v t p H'->Q p H'):bC X 6 .added [hH,.ak (.s 19),.str op,.tup (nats ks)] (lq cells j σ ps tl v t) Q:=by
 refine(Ir C F (Hx eG) ho h3 h2 cm).mono λp H' x=>hq _ _ ?_;refine aK x ?_;clear x;rintro rfl aB;refine ay aB ?_;clear aB;rintro τ rfl dv;refine lY dv ?_;clear dv;intro G g1 g2 cO g3;exact⟨rfl,j,τ,ps,hj,rfl,G,g1,g2,qF _,g3⟩
theorem Xv(F:Full σ ps)(eG:ps.length<=90)(h0:0<σ.ops.length)(cm:σ.ops.length<16)(hk:k<=900)(hc:cells.length<=100):
 bC X 7 .rk [.ak (.s 0),hH,.ak (.s 19),.ak (.s 20)] (lq cells k σ ps tl v t) (GZ cells k σ ps tl v t):=by
 have hL:aI=1000000:=rfl;refine eu (M:=D4) C.O (C.ck .rk (λh=>Fn.noConfusion h)) rfl λQz bu=>?_
 (with_reducible refine aD ?_;simp only[D4,ce,bB,ci,cu,cA,bX,aE,Nz,eQ,aC,Mk,a0,aT,x_call,cM,aG,gs,gz,aw,cT])
 refine ta C (by decide) (m:=6) (by decide) (Hy hk) hc λway ag2=>?_;refine Jh C (by decide) h0 cm (Hz hk) hc λx hx=>?_;refine Jh C (by decide) h0 cm (RS hk) hc λy hy=>?_;refine mJ Xw ?_;intro lam app ff v1;refine⟨Ly,rfl,?_⟩;simp only[sr,OB,bX,cA,oE,aR,bh,oF]
 (with_reducible refine aD ?_;simp only[aE,w_ite,be,cc,ef,cT,aC,aG,gs,gz,aw])
 refine Ct (b:=0) (λU=>?_) λU=>?_
 ·(with_reducible refine aD ?_;simp only[aE,be,cf,x_call,aC,a0,aT,eQ,aG,gs,gz,aw,fZ])
  exact⟨zI,u8 C F eG cm (ks:=[x]) lam (qF 1) (zO hx) (BN) bu⟩
 (with_reducible refine aD ?_;simp only[aE,w_ite,be,cc,ef,cT,aC,aG,gs,gz,aw])
 refine Ct (b:=1) (λU=>?_) λU=>?_
 ·(with_reducible refine aD ?_;simp only[aE,be,cf,x_call,aC,a0,aT,eQ,aG,gs,gz,aw,fZ])
  exact⟨tG,u8 C F eG cm (ks:=[x,y]) app (bj 2) (LU hx hy) (BN) bu⟩
 (with_reducible refine aD ?_;simp only[aE,w_ite,be,cc,ef,cT,aC,aG,gs,gz,aw])
 refine Ct (b:=2) (λU=>?_) λU=>?_
 ·(with_reducible refine aD ?_;simp only[aE,bE,bZ,aR,bh,dM,aC,x_call,a0,aT,cT,aG,gz,aw,fr,fx,fZ])
  refine⟨Ly,?_⟩;refine ta C (by decide) (m:=3) (by decide) (RT hk) hc λz hz=>?_;refine abl hz ?_ ?_ ?_
  ·(with_reducible refine aD ?_;simp only[aE,be,cf,x_call,aC,a0,aT,mL,eQ,aG,gs,gz,aw,cc,fZ])
   refine⟨by trivial,?_⟩;refine Cu ff lam (λh=>absurd h (by decide+kernel)) λU=>?_;exact⟨zI,u8 C F eG cm (ks:=[x]) ff (qF 1) (zO hx) (BO) bu⟩
  ·(with_reducible refine aD ?_;simp only[aE,be,cf,x_call,aC,a0,aT,mL,eQ,aG,gs,gz,aw,cc,fZ])
   refine⟨by trivial,?_⟩;refine Cu v1 lam (λh=>absurd h (by decide+kernel)) λU=>?_;exact⟨zI,u8 C F eG cm (ks:=[x]) v1 (qF 1) (zO hx) (BO) bu⟩
  ·(with_reducible refine aD ?_;simp only[aE,be,cf,x_call,aC,a0,aT,mL,eQ,aG,gs,gz,aw,cc,fZ])
   refine⟨by trivial,?_⟩;refine Cu lam lam (λU=>?_) λh=>absurd rfl h;exact⟨tG,u8 C F eG cm (ks:=[x,y]) lam (bj 2) (LU hx hy) (BO) bu⟩
 (with_reducible refine aD ?_;simp only[aE,fq,fD,aC,a0,aT,eQ,aG,gs,gz,aw])
 refine⟨jn (by exact .inl rfl) yU,tG,?_⟩;unfold lq;refine aa (j9 yU ..) ?_;refine aa (aeK ..) ?_;refine⟨by rewrite[bp];exact RU eG hL,rfl,?_⟩
 (with_reducible refine aD ?_;simp only[aE,fq,de,aC,a0,aT,eQ,eP,cM,aG,gs,gz,aw,fZ])
 have vd:ps.map eH++[.tup [nat x,nat y]]=(ps++[(x,y)]).map eH:=by refine aa (iN ..) ?_;rfl
 refine aa (vd ..) ?_;refine aa (tH yU (bp _) ..) ?_;refine⟨fX rfl,by refine aa (bS ..) ?_;simp;exact RW eG hL,?_⟩;refine Xx (by refine aa (bS ..) ?_;simp;exact RX eG) λz=>?_;refine⟨tG,((ac0 C F.I F.all (Hx eG) (by refine aQ (F.all ..) ?_;exact hx) (by refine aQ (F.all ..) ?_;exact hy)).le (by decide)).mono λp H' q=>?_⟩;refine aK q ?_;clear q;intro hp aj;refine ay aj ?_;clear aj;rintro τ rfl aS;refine lY aS ?_;clear aS;intro J j1 j2 j3 j4;refine⟨hp,?_⟩
 (with_reducible refine aD ?_;simp only[aE,be,cf,lu,aC])
 refine bu _ _ ⟨rfl,k+1+1+1,τ,ps++[(x,y)],BN,?_,⟨J,by(refine aa (j1 ..) ?_;refine aa (j2 ..) ?_);exact F.all,by(refine aa (j3 ..) ?_;refine aa (j1 ..) ?_);exact F.w,by(refine aa (j4 ..) ?_;refine aa (j1 ..) ?_);exact F.d,by refine aa (j1 ..) ?_;exact F.o⟩,by refine aa (j1 ..) ?_;exact bj _,by refine aa (j1 ..) ?_;exact gQ,by simp,λm nd hm=>by refine aa (j1 ..) ?_;exact hm,λp hp=>mP _ hp⟩;unfold lq;refine aa (j1 ..) ?_;rfl
end
end
section
noncomputable def uJ:St:=⟨[],[],[],[],[],[],[],[],[],[],[],[]⟩
theorem gr{d:cr}{D:Cl}{a:At}{xs:List (At×PV)}{p:PV}{K:HP->Prop}(h1:H.get l=ae (.inst D d))(h2:H.get d=ae (.attrs xs))(hz:xs.length<=30)(e:H.set (.attrs (jH xs a p)) d=H')(hk:K H'):oH (.ak l) a p H K:=by
 simp only[oH,h1,h2,e];exact⟨hz,hk⟩
section
variable{X:Fx}(C:eM X)
include C
theorem V8:bC X 1 .kP [.ak (.s 4)] ⟨[fd,.attrs [],.inst .Heap (.s 1),.attrs [],.inst .jD (.s 3)],[],[],[],t⟩ (λp H'=>p=.none/\H'=⟨[fd,.attrs [],.inst .Heap (.s 1),.attrs [(.nodes,.ak (.s 5)),(.jQ,.ak (.s 6)),(.lX,.ak (.s 7)),(.nb,.ak (.s 8))],.inst .jD (.s 3),.list [],.bL [],.list [],.list []],[],[],[],t⟩):=by
 refine eu (M:=D1) C.O (C.ck .kP (λh=>Fn.noConfusion h)) rfl λQz bu=>?_
 (with_reducible refine aD ?_;simp only[D1,ce,bB,ci,cu,cA,bX,aE,bE,fY,aG,gz,aC,aw,fr,jP,aT])
 refine⟨cJ _,gr (xs:=[]) (H':=⟨[fd,.attrs [],.inst .Heap (.s 1),.attrs [(.nodes,.ak (.s 5))],.inst .jD (.s 3),.list []],[],[],[],t⟩) rfl rfl (by decide) rfl ?_⟩
 (with_reducible refine aD ?_;simp only[aE,bE,fY,aG,gz,aC,aw,mK])
 refine gr (xs:=[(.nodes,.ak (.s 5))]) (H':=⟨[fd,.attrs [],.inst .Heap (.s 1),.attrs [(.nodes,.ak (.s 5)),(.jQ,.ak (.s 6))],.inst .jD (.s 3),.list [],.bL []],[],[],[],t⟩) rfl rfl (by decide) rfl ?_
 (with_reducible refine aD ?_;simp only[aE,bE,fY,aG,gz,aC,aw,fr,jP,aT])
 refine⟨cJ _,gr (xs:=[(.nodes,.ak (.s 5)),(.jQ,.ak (.s 6))]) (H':=⟨[fd,.attrs [],.inst .Heap (.s 1),.attrs [(.nodes,.ak (.s 5)),(.jQ,.ak (.s 6)),(.lX,.ak (.s 7))],.inst .jD (.s 3),.list [],.bL [],.list []],[],[],[],t⟩) rfl rfl (by decide) rfl ?_⟩
 (with_reducible refine aD ?_;simp only[aE,be,bE,fY,aG,gz,aC,aw,fr,jP,aT])
 refine⟨cJ _,gr (xs:=[(.nodes,.ak (.s 5)),(.jQ,.ak (.s 6)),(.lX,.ak (.s 7))]) (H':=⟨[fd,.attrs [],.inst .Heap (.s 1),.attrs [(.nodes,.ak (.s 5)),(.jQ,.ak (.s 6)),(.lX,.ak (.s 7)),(.nb,.ak (.s 8))],.inst .jD (.s 3),.list [],.bL [],.list [],.list []],[],[],[],t⟩) rfl rfl (by decide) rfl ?_⟩;exact bu _ _ ⟨rfl,rfl⟩
theorem af0{b0 b1 b2 b3 b4 b5 b6 b7 b8:aF}:bC X 1 .lp [.ak (.s 10)] ⟨[b0,b1,b2,b3,b4,b5,b6,b7,b8,.attrs [],.inst .j8 (.s 9)],[],[],[],t⟩ (λp H'=>p=.none/\H'=⟨[b0,b1,b2,b3,b4,b5,b6,b7,b8,.attrs [(.above,.ak (.s 11)),(.bx,.ak (.s 12)),(.merged,.ak (.s 13))],.inst .j8 (.s 9),.list [],.list [],.list []],[],[],[],t⟩):=by
 refine eu (M:=EA) C.O (C.ck .lp (λh=>Fn.noConfusion h)) rfl λQz bu=>?_
 (with_reducible refine aD ?_;simp only[EA,ce,bB,ci,cu,cA,bX,aE,bE,fY,aG,gz,aC,aw,fr,jP,aT])
 refine⟨cJ _,gr (xs:=[]) (H':=⟨[b0,b1,b2,b3,b4,b5,b6,b7,b8,.attrs [(.above,.ak (.s 11))],.inst .j8 (.s 9),.list []],[],[],[],t⟩) rfl rfl (by decide) rfl ?_⟩
 (with_reducible refine aD ?_;simp only[aE,bE,fY,aG,gz,aC,aw,fr,jP,aT])
 refine⟨cJ _,gr (xs:=[(.above,.ak (.s 11))]) (H':=⟨[b0,b1,b2,b3,b4,b5,b6,b7,b8,.attrs [(.above,.ak (.s 11)),(.bx,.ak (.s 12))],.inst .j8 (.s 9),.list [],.list []],[],[],[],t⟩) rfl rfl (by decide) rfl ?_⟩
 (with_reducible refine aD ?_;simp only[aE,be,bE,fY,aG,gz,aC,aw,fr,jP,aT])
 refine⟨cJ _,gr (xs:=[(.above,.ak (.s 11)),(.bx,.ak (.s 12))]) (H':=⟨[b0,b1,b2,b3,b4,b5,b6,b7,b8,.attrs [(.above,.ak (.s 11)),(.bx,.ak (.s 12)),(.merged,.ak (.s 13))],.inst .j8 (.s 9),.list [],.list [],.list []],[],[],[],t⟩) rfl rfl (by decide) rfl ?_⟩;exact bu _ _ ⟨rfl,rfl⟩
end
end
section
noncomputable def rE:List aF:=[.attrs [(.nodes,.ak (.s 5)),(.jQ,.ak (.s 6)),(.lX,.ak (.s 7)),(.nb,.ak (.s 8))],.inst .jD (.s 3),.list [],.bL [],.list [],.list []]
noncomputable def tC:List aF:=[.attrs [(.above,.ak (.s 11)),(.bx,.ak (.s 12)),(.merged,.ak (.s 13))],.inst .j8 (.s 9),.list [],.list [],.list []]
noncomputable def rQ(fd:aF)(xs:List (At×PV))(r t:List aF):HP:=⟨fd::.attrs xs::.inst .Heap (.s 1)::r,[],[],[],t⟩
section
variable{X:Fx}(C:eM X)
include C
theorem Zd:bC X 3 .kQ [.ak (.s 2)] ⟨[fd,.attrs [],.inst .Heap (.s 1)],[],[],[],t⟩ (λp H'=>p=.none/\H'=av fd uJ [] [] t):=by
 refine eu (M:=D6) C.O (C.ck .kQ (λh=>Fn.noConfusion h)) rfl λQz bu=>?_
 (with_reducible refine aD ?_;simp only[D6,ce,bB,ci,cu,cA,bX,aE,bE,fY,aG,gz,aC,aw,wS,aT])
 refine⟨1,rfl,(V8 C).dt ⟨rfl,?_⟩⟩;refine gr (l:=.s 2) (d:=.s 1) (xs:=[]) (H':=rQ fd [(.gC,.ak (.s 4))] (rE) t) rfl rfl (by decide) rfl ?_
 (with_reducible refine aD ?_;simp only[aE,bE,fY,aG,gz,aC,aw,wS,aT])
 refine⟨1,rfl,(af0 C).dt ⟨rfl,?_⟩⟩;refine gr (l:=.s 2) (d:=.s 1) (xs:=[(.gC,.ak (.s 4))]) (H':=rQ fd [(.gC,.ak (.s 4)),(.gu,.ak (.s 10))] (rE++tC) t) rfl rfl (by decide) rfl ?_
 (with_reducible refine aD ?_;simp only[aE,bE,fY,aG,gz,aC,aw,fr,jP,aT])
 refine⟨cJ _,gr (l:=.s 2) (d:=.s 1) (xs:=[(.gC,.ak (.s 4)),(.gu,.ak (.s 10))]) (H':=rQ fd [(.gC,.ak (.s 4)),(.gu,.ak (.s 10)),(.dc,.ak (.s 14))] ((rE++tC)++[.list []]) t) rfl rfl (by decide) rfl ?_⟩
 (with_reducible refine aD ?_;simp only[aE,bE,fY,aG,gz,aC,aw,fr,jP,aT])
 refine⟨cJ _,gr (l:=.s 2) (d:=.s 1) (xs:=[(.gC,.ak (.s 4)),(.gu,.ak (.s 10)),(.dc,.ak (.s 14))]) (H':=rQ fd [(.gC,.ak (.s 4)),(.gu,.ak (.s 10)),(.dc,.ak (.s 14)),(.dO,.ak (.s 15))] ((rE++tC)++[.list [],.list []]) t) rfl rfl (by decide) rfl ?_⟩
 (with_reducible refine aD ?_;simp only[aE,bE,fY,aG,gz,aC,aw,mK])
 refine gr (l:=.s 2) (d:=.s 1) (xs:=[(.gC,.ak (.s 4)),(.gu,.ak (.s 10)),(.dc,.ak (.s 14)),(.dO,.ak (.s 15))]) (H':=rQ fd [(.gC,.ak (.s 4)),(.gu,.ak (.s 10)),(.dc,.ak (.s 14)),(.dO,.ak (.s 15)),(.known,.ak (.s 16))] ((rE++tC)++[.list [],.list [],.bL []]) t) rfl rfl (by decide) rfl ?_
 (with_reducible refine aD ?_;simp only[aE,bE,fY,aG,gz,aC,aw,mK])
 refine gr (l:=.s 2) (d:=.s 1) (xs:=[(.gC,.ak (.s 4)),(.gu,.ak (.s 10)),(.dc,.ak (.s 14)),(.dO,.ak (.s 15)),(.known,.ak (.s 16))]) (H':=rQ fd [(.gC,.ak (.s 4)),(.gu,.ak (.s 10)),(.dc,.ak (.s 14)),(.dO,.ak (.s 15)),(.known,.ak (.s 16)),(.above,.ak (.s 17))] ((rE++tC)++[.list [],.list [],.bL [],.aH []]) t) rfl rfl (by decide) rfl ?_
 (with_reducible refine aD ?_;simp only[aE,be,bE,fY,aG,gz,aC,aw,fr,jP,aT])
 refine⟨cJ _,gr (l:=.s 2) (d:=.s 1) (xs:=[(.gC,.ak (.s 4)),(.gu,.ak (.s 10)),(.dc,.ak (.s 14)),(.dO,.ak (.s 15)),(.known,.ak (.s 16)),(.above,.ak (.s 17))]) (H':=rQ fd [(.gC,.ak (.s 4)),(.gu,.ak (.s 10)),(.dc,.ak (.s 14)),(.dO,.ak (.s 15)),(.known,.ak (.s 16)),(.above,.ak (.s 17)),(.waiting,.ak (.s 18))] ((rE++tC)++[.list [],.list [],.bL [],.aH [],.list []]) t) rfl rfl (by decide) rfl ?_⟩;exact bu _ _ ⟨rfl,rfl⟩
end
end
section
section
variable{X:Fx}(C:eM X){v:List aF}
noncomputable def rM(an w tn:Nat):aF:=.attrs [(.heap,.ak (.s 2)),(.iB,.ak (.s an)),(.values,.ak (.v w)),(.kA,.ak (.s tn))]
include C
theorem abW{o1 o3 o4:aF}:bC X 1 .jM [.ak (.s 24),hH,.ak (.s 22)] (av fd σ [o1,o2,o3,o4,.attrs [],.inst .Keeper (.s 23)] v t) (λp H'=>p=.none/\H'=av fd σ [o1,o2,o3,o4,rM 22 v.length 25,.inst .Keeper (.s 23),.aH []] (v++[.aH []]) t):=by
 refine eu (M:=wh) C.O (C.ck .jM (λh=>Fn.noConfusion h)) rfl λQz bu=>?_
 (with_reducible refine aD ?_;simp only[wh,ce,bB,ci,cu,cA,bX,aE,bE,fY,aG,gz,aC,aw,gs])
 refine gr (l:=.s 24) (d:=.s 23) (xs:=[]) (H':=av fd σ [o1,o2,o3,o4,.attrs [(.heap,hH)],.inst .Keeper (.s 23)] v t) rfl rfl (by decide) rfl ?_
 (with_reducible refine aD ?_;simp only[aE,bE,fY,aG,gz,aC,aw,gs])
 refine gr (l:=.s 24) (d:=.s 23) (xs:=[(.heap,hH)]) (H':=av fd σ [o1,o2,o3,o4,.attrs [(.heap,hH),(.iB,.ak (.s 22))],.inst .Keeper (.s 23)] v t) rfl rfl (by decide) rfl ?_
 (with_reducible refine aD ?_;simp only[aE,bE,fY,aG,gz,aC,aw,mK])
 refine gr (l:=.s 24) (d:=.s 23) (xs:=[(.heap,hH),(.iB,.ak (.s 22))]) (H':=av fd σ [o1,o2,o3,o4,.attrs [(.heap,hH),(.iB,.ak (.s 22)),(.values,.ak (.v v.length))],.inst .Keeper (.s 23)] (v++[.aH []]) t) rfl rfl (by decide) rfl ?_
 (with_reducible refine aD ?_;simp only[aE,be,bE,fY,aG,gz,aC,aw,mK])
 refine gr (l:=.s 24) (d:=.s 23) (xs:=[(.heap,hH),(.iB,.ak (.s 22)),(.values,.ak (.v v.length))]) (H':=av fd σ [o1,o2,o3,o4,.attrs [(.heap,hH),(.iB,.ak (.s 22)),(.values,.ak (.v v.length)),(.kA,.ak (.s 25))],.inst .Keeper (.s 23),.aH []] (v++[.aH []]) t) rfl rfl (show 3<=30 by decide) rfl ?_;exact bu _ _ ⟨rfl,rfl⟩
theorem abX{o1 o3 o4 o5 o6 o7 o8 o9:aF}:bC X 1 .jM [.ak (.s 29),hH,.ak (.s 27)] (av fd σ [o1,o2,o3,o4,o5,o6,o7,o8,o9,.attrs [],.inst .Keeper (.s 28)] v t) (λp H'=>p=.none/\H'=av fd σ [o1,o2,o3,o4,o5,o6,o7,o8,o9,rM 27 v.length 30,.inst .Keeper (.s 28),.aH []] (v++[.aH []]) t):=by
 refine eu (M:=wh) C.O (C.ck .jM (λh=>Fn.noConfusion h)) rfl λQz bu=>?_
 (with_reducible refine aD ?_;simp only[wh,ce,bB,ci,cu,cA,bX,aE,bE,fY,aG,gz,aC,aw,gs])
 refine gr (l:=.s 29) (d:=.s 28) (xs:=[]) (H':=av fd σ [o1,o2,o3,o4,o5,o6,o7,o8,o9,.attrs [(.heap,hH)],.inst .Keeper (.s 28)] v t) rfl rfl (by decide) rfl ?_
 (with_reducible refine aD ?_;simp only[aE,bE,fY,aG,gz,aC,aw,gs])
 refine gr (l:=.s 29) (d:=.s 28) (xs:=[(.heap,hH)]) (H':=av fd σ [o1,o2,o3,o4,o5,o6,o7,o8,o9,.attrs [(.heap,hH),(.iB,.ak (.s 27))],.inst .Keeper (.s 28)] v t) rfl rfl (by decide) rfl ?_
 (with_reducible refine aD ?_;simp only[aE,bE,fY,aG,gz,aC,aw,mK])
 refine gr (l:=.s 29) (d:=.s 28) (xs:=[(.heap,hH),(.iB,.ak (.s 27))]) (H':=av fd σ [o1,o2,o3,o4,o5,o6,o7,o8,o9,.attrs [(.heap,hH),(.iB,.ak (.s 27)),(.values,.ak (.v v.length))],.inst .Keeper (.s 28)] (v++[.aH []]) t) rfl rfl (by decide) rfl ?_
 (with_reducible refine aD ?_;simp only[aE,be,bE,fY,aG,gz,aC,aw,mK])
 refine gr (l:=.s 29) (d:=.s 28) (xs:=[(.heap,hH),(.iB,.ak (.s 27)),(.values,.ak (.v v.length))]) (H':=av fd σ [o1,o2,o3,o4,o5,o6,o7,o8,o9,.attrs [(.heap,hH),(.iB,.ak (.s 27)),(.values,.ak (.v v.length)),(.kA,.ak (.s 30))],.inst .Keeper (.s 28),.aH []] (v++[.aH []]) t) rfl rfl (show 3<=30 by decide) rfl ?_;exact bu _ _ ⟨rfl,rfl⟩
end
noncomputable def T1(r p:aF)(w:Nat):List aF:=[r,p,.attrs [],.inst .fG (.s 21),rM 22 w 25,.inst .Keeper (.s 23),.aH []]
noncomputable def T2(r p:aF)(w0 w:Nat):List aF:=[r,p,.attrs [],.inst .fG (.s 21),rM 22 w0 25,.inst .Keeper (.s 23),.aH [],.attrs [],.inst .fG (.s 26),rM 27 w 30,.inst .Keeper (.s 28),.aH []]
theorem zE{r p:aF}:pq (T1 r p) 24 22 where
 heap:=rfl
 uS:=rfl
 vals:=rfl
 put:=λh=>⟨by exact bR rfl,h⟩
 nr:=λh=>⟨h,trivial⟩
 ou:=λh=>⟨h,trivial⟩
theorem zF{r p:aF}{w0:Nat}:pq (T2 r p w0) 29 27 where
 heap:=rfl
 uS:=rfl
 vals:=rfl
 put:=λh=>⟨by exact bR rfl,h⟩
 nr:=λh=>⟨h,trivial⟩
 ou:=λh=>⟨h,trivial⟩
theorem Ll{r p:aF}{w1:Nat}:pq (λw=>T2 r p w w1) 24 22 where
 heap:=rfl
 uS:=rfl
 vals:=rfl
 put:=λh=>⟨by exact bR rfl,h⟩
 nr:=λh=>⟨h,trivial⟩
 ou:=λh=>⟨h,trivial⟩
end
section
def md(xs:Array Nat):Prop:=xs.toList.Pairwise (·< ·)
theorem yn{xs:Array Nat}(h:md xs)(rx:i<j)(hj:j<xs.size):xs.getD i 0<xs.getD j 0:=by
 have h':=List.pairwise_iff_getElem.mp h i j (by refine aa (kG ..) ?_;exact HA rx hj) (by refine aa (kG ..) ?_;exact hj) rx;simpa[kF,hj,show i<xs.size by exact HA rx hj]using h'
set_option tactic.hygienic true in
theorem Wc{xs:Array Nat}(h:md xs):∀(fuel lo hi:Nat),lo<=hi->hi<=xs.size->hi - lo<=fuel->(∀i,i<lo->xs.getD i 0<j)->(∀i,hi<=i->i<xs.size->j<=xs.getD i 0)->A1 xs j fuel lo hi<=xs.size/\(∀i,i<A1 xs j fuel lo hi->xs.getD i 0<j)/\(∀i,A1 xs j fuel lo hi<=i->i<xs.size->j<=xs.getD i 0):=by
 intro fuel;induction fuel with
 |zero=>
  intro lo hi h1 h2 h3 h4 h5;have:lo=hi:=RY h1 h3;subst this;exact⟨h2,h4,h5⟩
 |succ fuel ih=>
  intro lo hi h1 h2 h3 h4 h5;unfold A1;split
  ·rename_i bo
   dsimp only;have eg:xs.getD ((lo+hi)/2) j=xs.getD ((lo+hi)/2) 0:=by simp[kF,show(lo+hi)/2<xs.size by exact HB h2 bo]
   refine aa (eg ..) ?_;split
   ·rename_i hm
    refine ih _ _ (RZ bo) h2 (R0 h3) (λi kS=>?_) h5;by_cases e:i=(lo+hi)/2
    ·refine aa (e ..) ?_;exact hm
    ·exact gO (yn h (show i<(lo+hi)/2 by exact R1 kS e) (HB h2 bo)) hm
   ·rename_i hm
    refine ih _ _ (R2 bo) (R3 h2 bo) (R4 h3) h4 λi kS hs=>?_;by_cases e:i=(lo+hi)/2
    ·refine aa (e ..) ?_;exact qY hm
    ·have:=yn h (show(lo+hi)/2<i by exact R5 kS e) hs
     exact R6 hm this
  ·have:lo=hi:=by exact R7 h1 (by assumption)
   subst this;exact⟨h2,h4,h5⟩
theorem yu{xs:Array Nat}(h:md xs)(j:Nat):jX xs j<=xs.size/\(∀i,i<jX xs j->xs.getD i 0<j)/\(∀i,jX xs j<=i->i<xs.size->j<=xs.getD i 0):=
 Wc h _ _ _ (cJ _) (bj _) (bj _) (λi hi=>absurd hi (oR _)) λi hi hs=>absurd hs (l9.mpr hi)
theorem below_at{xs:Array Nat}(h:md xs)(e:xs[i]? =ae j):jX xs j=i:=by
 refine aM (ua.mp e) ?_;intro hi e;have ej:xs.getD i 0=j:=by simp[kF,hi,e]
 refine eB (yu h j) ?_;intro h1 h2 h3;rcases OI (jX xs j) i with h4|h4|h4
 ·have:=h3 _ (bj _) (R8 hi h4)
  have:=yn h h4 hi;exact R9 ej (by assumption) this
 ·exact h4
 ·have:=h2 i h4;exact xW ej this
theorem Wd{xs:Array Nat}(h:md xs)(e:xs[i]? =ae j):jX xs (j+1)=i+1:=by
 refine aM (ua.mp e) ?_;intro hi e;have ej:xs.getD i 0=j:=by simp[kF,hi,e]
 refine eB (yu h (j+1)) ?_;intro h1 h2 h3;rcases OI (jX xs (j+1)) (i+1)with h4|h4|h4
 ·have:=h3 i (BP h4) hi;exact Sa ej this
 ·exact h4
 ·have h5:=h2 (i+1) h4
  exact Sd ej h5 (yn h (show i<i+1 by exact xV) (Sb h1 h4))
theorem Wb{xs:Array Nat}(h:md xs):jX xs 0=0:=by
 refine eB (yu h 0) ?_;intro h1 h2 h3;rcases F0 (jX xs 0)with h4|h4
 ·exact h4
 ·exact absurd (h2 0 h4) (oR _)
set_option tactic.hygienic true in
theorem ae6{t:SetTable}(h:t.slot j=.live i):t.place[i]? =ae j:=by
 unfold A3 at h;dsimp only at h;split at h
 ·rename_i hc
  injection h with h;refine aQ (h ..) ?_;simpa using hc
 ·split at h<;>exact jw (noConfusion_of_Nat Pf h)
theorem has_none:SetTable.has #[] j=aq:=rfl
theorem ae5{t:SetTable}(hd:t.dummies= #[])(ha:md t.place)(h:t.slot j=.empty):j∉t.place.toList:=by
 intro hm;refine aM (nM hm) ?_;intro i hi;rw[oO]at hi;unfold A3 at h;dsimp only at h;rw[below_at ha hi,hi]at h;simp at h
theorem ae7{t:SetTable}(hd:t.dummies= #[])(h:j∉t.place.toList):t.slot j=.empty:=by
 unfold A3;dsimp only
 (rewrite[if_neg];refine aa (hd ..) ?_;refine aa (has_none ..) ?_;refine aa (if_neg (by simp) ..) ?_;rfl)
 intro hc;have:t.place[jX t.place j]? =ae j:=by simpa using hc
 rw[<-oO]at this;exact h (eD this)
theorem ae4{t:SetTable}(hd:t.dummies= #[])(j:Nat):t.slot j=.empty\/∃i,t.slot j=.live i:=by
 unfold A3;dsimp only;split
 ·exact .inr ⟨_,rfl⟩
 ·(refine aa (hd ..) ?_;refine aa (has_none ..) ?_;refine aa (if_neg (by simp) ..) ?_);exact .inl rfl
theorem VT{xs:Array Nat}(h:md xs)(hj:j∉xs.toList):md (iR xs (jX xs j) j):=by
 refine eB (yu h j) ?_;intro h1 h2 h3;generalize jX xs j=p at*;unfold md at*;rewrite[SetTable.toList_insertAt];have get:∀i (hi:i<xs.toList.length),xs.getD i 0=xs.toList[i]:=λi hi=>by
  rw[kG]at hi;simp[kF,hi]
 rewrite[Oy];refine⟨h.sublist (List.take_sublist _ _),nN.mpr ⟨λx hx=>?_,h.sublist (List.drop_sublist _ _)⟩,λx hx y hy=>?_⟩
 ·(refine aM (nM hx) ?_;intro i hi)
  rw[Oi]at hi;refine aM (bJ.mp hi) ?_;intro hl e
  have h4:=h3 (p+i) (sS) (by rw[kG]at hl;exact hl);rw[get _ hl,e]at h4;have:x≠j:=λz=>hj (z▸eD hi);exact Se h4 this
 ·(refine aM (nM hx) ?_;intro i hi)
  refine aM (bJ.mp hi) ?_;intro ij e';have Km:i<p:=by rw[sq]at ij;exact Sf ij
  rw[List.getElem?_take,if_pos Km]at hi;refine aM (bJ.mp hi) ?_;intro hl e;have KP:x<j:=by have:=h2 i Km;rw[get _ hl,e]at this;exact this
  rcases cH.mp hy with rfl|hy
  ·exact KP
  ·(refine aM (nM hy) ?_;intro i2 Kl)
   rw[Oi]at Kl;refine aM (bJ.mp Kl) ?_;intro kX e2
   have h4:=h3 (p+i2) (sS) (by rw[kG]at kX;exact kX);rw[get _ kX,e2]at h4;exact Sg KP h4
theorem DJ{α:Type}(xs:Array α)(p:Nat)(x:α):(iR xs p x).size=xs.size+1:=by
 simpa using((Gy xs p x).length_eq)
noncomputable def rX(mask i perturb:Nat):nR:={j:=i,more:=ux mask i - i,i,perturb,dummy:=ai}
noncomputable def eN(t:SetTable):Nat->nR->nR
 |0,p=>p
 |k+1,p=>t.advance (eN t k p)
theorem It(t:SetTable)(k:Nat):∀(m:Nat) (p:nR),eN t (k+m) p=eN t k (eN t m p):=by
 induction k with
 |zero=>intro m p;rewrite[sA];rfl
 |succ k ih=>
  intro m p;refine aa ((show k+1+m=(k+m)+1 by exact BQ) ..) ?_;refine(?_:t.advance (eN t (k+m) p)=t.advance (eN t k (eN t m p)))
  (rewrite[ih];rfl)
theorem VB(t:SetTable):∀(m:Nat) (p:nR),p.more=m->p.dummy=ai->eN t (m+1) p=rX t.mask (xv t.mask p.i p.perturb).1 (xv t.mask p.i p.perturb).2:=by
 intro m;induction m with
 |zero=>
  intro p h hd;refine(?_:t.advance p=_);unfold Gx;refine aa (if_neg (Sh h) ..) ?_;refine(?_:({j:=_,more:=_,i:=_,perturb:=_,dummy:=p.dummy}:nR)=_);refine aa (hd ..) ?_;rfl
 |succ m ih=>
  intro p h hd;have e1:eN t 1 p={p with j:=p.j+1,more:=p.more - 1}:=by
   refine(?_:t.advance p=_);unfold Gx;refine aa (if_pos (Si h) ..) ?_;rfl
  refine aa ((show m+1+1=(m+1)+1 by exact Sj) ..) ?_;rewrite[It];refine aa (e1 ..) ?_;exact ih {p with j:=p.j+1,more:=p.more - 1} (by show p.more - 1=m;exact Sk h) hd
noncomputable def i3(mask:Nat):Nat->Nat×Nat->Nat×Nat
 |0,x=>x
 |n+1,x=>i3 mask n (xv mask x.1 x.2)
theorem VA(t:SetTable):∀(n i q:Nat),∃k,k<=10*n/\eN t k (rX t.mask i q)=rX t.mask (i3 t.mask n (i,q)).1 (i3 t.mask n (i,q)).2:=by
 intro n;induction n with
 |zero=>
  intro i q;exact⟨0,bj _,rfl⟩
 |succ n ih=>
  intro i q;refine ay (ih (xv t.mask i q).1 (xv t.mask i q).2) ?_;intro k hk e;have hm:(rX t.mask i q).more<=9:=by
   refine(?_:ux t.mask i - i<=9);unfold ux;split<;>(first|exact Sl|exact Sn)
  refine⟨k+((rX t.mask i q).more+1),So hk hm,?_⟩
  (rewrite[It];refine aa (((VB t _ (rX t.mask i q) rfl rfl)) ..) ?_)
  exact e
noncomputable def we(mask:Nat):Nat->Nat->Nat
 |0,i=>i
 |n+1,i=>we mask n ((i*5+1) % (mask+1))
theorem acm:∀(n i:Nat),i3 mask n (i,0)=(we mask n i,0):=by
 intro n;induction n with
 |zero=>
  intro i;exact rfl
 |succ n ih=>
  intro i;refine(?_:i3 mask n ((i*5+1+0/32) % (mask+1),0/32)=_)
  (rewrite[Nat.zero_div];rewrite[FZ])
  exact ih _
theorem acj:∀(n m:Nat) (x:Nat×Nat),i3 mask (n+m) x=i3 mask m (i3 mask n x):=by
 intro n;induction n with
 |zero=>
  intro m x;rewrite[sA];rfl
 |succ n ih=>
  intro m x;refine aa ((show n+1+m=(n+m)+1 by exact BQ) ..) ?_;exact ih m _
theorem acl:∀(n i q:Nat),(i3 mask n (i,q)).2=q/32^n:=by
 intro n;induction n with
 |zero=>
  intro i q;simp[i3]
 |succ n ih=>
  intro i q;refine(?_:(i3 mask n ((i*5+1+q/32) % (mask+1),q/32)).2=_)
  (rewrite[ih];rewrite[Nat.div_div_eq_div_mul];rewrite[F5];rewrite[Nat.mul_comm];rfl)
theorem ack:∀(n i q:Nat),i<=mask->(i3 mask n (i,q)).1<=mask:=by
 intro n;induction n with
 |zero=>
  intro i q h;exact h
 |succ n ih=>
  intro i q h;exact ih _ _ (AP.mp (un _ (xm _)))
theorem WL(h:Int):gb h<2^64:=by
 unfold gb
 have h1:=NZ h (show(2^64:Int)≠0 by decide)
 have h2:=NY h (show(0:Int)<2^64 by decide);exact Sp
theorem acf:∀i,i<8->∀e,e<8->∃m,m<8/\we 7 m i=e:=by decide+kernel
theorem ace:∀i,i<32->∀e,e<32->∃m,m<32/\we 31 m i=e:=by decide+kernel
def xP(mask:Nat):Prop:=mask=7\/mask=31
theorem LA(hm:xP mask)(h:Int){e:Nat}(he:e<=mask):∃n,n<13+(mask+1)/\(i3 mask n (gb h % (mask+1),gb h)).1=e:=by
 have h1:(i3 mask 13 (gb h % (mask+1),gb h)).2=0:=by
  rewrite[acl]
  have:=WL h;exact Nat.div_eq_of_lt (iP this (by decide))
 have h2:=ack (mask:=mask) 13 (gb h % (mask+1)) (gb h) (AP.mp (un _ (xm _)));have key:∃m,m<mask+1/\we mask m (i3 mask 13 (gb h % (mask+1),gb h)).1=e:=by
  rcases hm with rfl|rfl
  ·exact acf _ (HC h2) e (HC he)
  ·exact ace _ (HD h2) e (HD he)
 refine ay key ?_;clear key;intro m aai zh;refine⟨13+m,Sq aai,?_⟩;rewrite[acj];generalize i3 mask 13 (gb h % (mask+1),gb h)=x at*;rcases x with⟨x1,x2⟩
 subst h1;rewrite[acm];exact zh
theorem JA{xs:List Nat}:∀{n:Nat},xs.length<n->∃e,e<n/\e∉xs:=by
 intro n h;refine uc λhc=>?_;have aZ:∀e,e∈bw n->e∈xs:=λe he=>uc λh'=>hc ⟨e,er.mp he,h'⟩
 have:=(AH (n:=n)).length_le_of_subset aZ;rw[eZ]at this;exact Sr h this
structure fN(t:SetTable)(n:Nat):Prop where
 uT:md t.place
 dm:t.dummies= #[]
 sz:t.place.size=n
 mo:xP t.mask
 le:n<t.mask
theorem fN.fits{t:SetTable}{n:Nat}(T:fN t n):t.fits n=ag:=by
 unfold SetTable.fits Pg
 have:=T.sz;have:=T.le;refine aa (T.dm ..) ?_;simp;exact Ss (by assumption) this
theorem fN.odd{t:SetTable}{n:Nat}(T:fN t n):t.gaveWay=aq:=by
 unfold SetTable.gaveWay;rcases T.mo with e|e<;>refine aa (e ..) ?_<;>rfl
theorem fN.turns{t:SetTable}{n:Nat}(T:fN t n)(h:Int):∃K,K<10*mS t.mask/\K<1000/\t.slot (eN t K (t.probeStart h)).j=.empty:=by
 refine ay (JA (xs:=t.place.toList) (n:=t.mask+1) (by(refine aa (kG ..) ?_;refine aa (T.sz ..) ?_);have:=T.le;exact nY this)) ?_;intro e he hf;refine ay (LA T.mo h (e:=e) (BP he)) ?_;intro n' hn e1;refine ay (VA t n' (gb h % (t.mask+1)) (gb h)) ?_;intro k hk e2;have e3:t.probeStart h=rX t.mask (gb h % (t.mask+1)) (gb h):=rfl;refine⟨k,?_,?_,?_⟩
 ·unfold mS;exact Su hn hk
 ·rcases T.mo with e|e<;>(first|exact Sv hn hk e|exact Sx hn hk e)
 ·(refine aa (e3 ..) ?_;refine aa (e2 ..) ?_;refine aa (e1 ..) ?_)
  exact ae7 T.dm hf
theorem Mw{t:SetTable}{n:Nat}(T:fN t n){hashAt:Nat->Int}{h:Int}{p0:nR}{K:Nat}(hK:t.slot (eN t K p0).j=.empty)(Dd:∀k,(eN t k p0).dummy=ai):∀(d k fuel:Nat),k+d=K->d<fuel->(∃j,A2 t hashAt h fuel (eN t k p0)=ae (.empty j ai)/\t.slot j=.empty)\/∃k' i,k<=k'/\k'<K/\A2 t hashAt h fuel (eN t k p0)=ae (.candidate (eN t k' p0).j i (eN t (k'+1) p0))/\t.slot (eN t k' p0).j=.live i/\hashAt i=h:=by
 intro d k fuel;induction fuel generalizing d k with
 |zero=>
  intro _ hf;omega
 |succ fuel ih=>
  intro hk hf;unfold A2;rcases ae4 T.dm (eN t k p0).j with hs|⟨i,hs⟩
  ·refine .inl ⟨(eN t k p0).j,?_,hs⟩
   refine aa (hs ..) ?_;dsimp only
   (rewrite[Dd];rfl)
  ·have hd:d≠0:=by
    rintro rfl;rw[FZ]at hk;rw[hk,hK]at hs;exact jw (noConfusion_of_Nat Pf hs)
   refine aa (hs ..) ?_;dsimp only;by_cases hh:hashAt i=h
   ·refine aa (if_pos (by simpa using hh) ..) ?_
    exact .inr ⟨k,i,bj _,Sy hk hd,rfl,hs,hh⟩
   ·refine aa (if_neg (by simpa using hh) ..) ?_
    rcases ih (d - 1) (k+1) (Sz hk hd) (SA hf hd)with h1|⟨k',i',h1,h2,h3⟩
    ·exact .inl h1
    ·exact .inr ⟨k',i',yf h1,h2,h3⟩
theorem Iu{t:SetTable}:∀(k:Nat) (p:nR),p.dummy=ai->(eN t k p).dummy=ai:=by
 intro k;induction k with
 |zero=>
  intro p h;exact h
 |succ k ih=>
  intro p h
  have:=ih p h;refine(?_:(t.advance (eN t k p)).dummy=ai);unfold Gx;split
  ·exact this
  ·exact this
theorem fN.put{t:SetTable}{n:Nat}(T:fN t n)(hj:t.slot j=.empty)(hn:n+1<t.mask):fN (t.put j).1 (n+1)/\(t.put j).1.led=t.led/\(t.put j).1.plain=t.plain/\(t.put j).1.mask=t.mask/\(t.put j).1.dummies= #[]:=by
 unfold SetTable.put;dsimp only;refine aa (T.dm ..) ?_;refine⟨⟨VT T.uT (ae5 T.dm T.uT hj),by refine aa (has_none ..) ?_;rfl,?_,T.mo,hn⟩,rfl,rfl,rfl,by refine aa (has_none ..) ?_;rfl⟩;refine(?_:(iR t.place _ j).size=n+1)
 (rewrite[DJ];refine aa (T.sz ..) ?_;rfl)
end
section
theorem YC{α β:Type}{f g:α->Option β}:∀{l:List α},(∀x∈l,f x=g x)->l.filterMap f=l.filterMap g:=by
 intro l;induction l with
 |nil=>
  intro _;exact rfl
 |cons a l ih=>
  intro h;refine aa (uf ..) ?_;refine aa (uf ..) ?_;refine aa (h a ca ..) ?_;refine aa ((ih λx hx=>h x (cI _ hx)) ..) ?_;rfl
noncomputable def owned(owner:Array (Option Nat))(l:List Nat):List (Nat×Nat):=l.filterMap λj=>(owner.getD j ai).map (j,·)
theorem adX{j0:Nat}(hj:j0<owner.size)(hn:owner.getD j0 ai=ai):∀{l:List Nat},l.Nodup->j0∈l->(owned (owner.setIfInBounds j0 (ae k)) l).Perm ((j0,k)::owned owner l):=by
 intro l;induction l with
 |nil=>
  intro _ h;cases h
 |cons a l ih=>
  intro hd h;have get:∀j,(owner.setIfInBounds j0 (ae k)).getD j ai=if j=j0 then ae k else owner.getD j ai:=λj=>by
   by_cases e:j=j0
   ·subst e;simp[kF,hj]
   ·refine aa (if_neg e ..) ?_
    unfold kF;by_cases hl:j<owner.size
    ·(refine aa (dif_pos hl ..) ?_;refine aa (dif_pos (by simpa using hl) ..) ?_)
     refine(?_:(owner.setIfInBounds j0 (ae k))[j]'(by simpa using hl)=owner[j]);exact Array.getElem_setIfInBounds_ne hl (jz e)
    ·(refine aa (dif_neg hl ..) ?_;refine aa (dif_neg (by simpa using hl) ..) ?_;rfl)
  rw[lz]at hd;unfold owned;refine aa (uf ..) ?_;refine aa (uf ..) ?_;rewrite[get];by_cases e:a=j0
  ·subst e
   refine aa (if_pos rfl ..) ?_;refine aa (hn ..) ?_;simp only[mc,F6];have:l.filterMap (λj=>((owner.setIfInBounds a (ae k)).getD j ai).map (j,·))=l.filterMap λj=>(owner.getD j ai).map (j,·):=YC λj lK=>by
    have Z7:j≠a:=λe=>hd.1 (e▸lK)
    (rewrite[get];refine aa (if_neg Z7 ..) ?_;rfl)
   refine aa (this ..) ?_;rfl
  ·refine aa (if_neg e ..) ?_
   have ih:=ih hd.2 ((cH.mp h).resolve_left (jz e));unfold owned at ih;cases ho:owner.getD a ai with
   |none=>simp only[F6];exact ih
   |some v=>simp only[mc];exact(ih.cons _).trans (.swap _ _ _)
theorem YK:∀(n fuel i q:Nat),n<fuel->i<=mask->(owner.getD (i3 mask n (i,q)).1 (ae 0)).isNone=ag->∃j,xu mask owner fuel i q=ae j/\j<=mask/\owner.getD j (ae 0)=ai:=by
 intro n fuel;induction fuel generalizing n with
 |zero=>
  intro i q h _ _;omega
 |succ fuel ih=>
  intro i q h hi he;unfold xu;cases hf:(bw (ux mask i+1 - i)).find? λk=>(owner.getD (i+k) (ae 0)).isNone with
  |some k=>
   dsimp only
   have h1:=FR hf
   have h2:=er.mp (FW hf);refine⟨i+k,rfl,?_,by simpa using h1⟩;unfold ux at h2;split at h2<;>(first|exact SB (by assumption) h2|exact SD hi h2)
  |none=>
   dsimp only;cases n with
   |zero=>
    rw[FQ]at hf
    have:=hf 0 (er.mpr (by unfold ux;split<;>(first|exact SF|exact SG)));rw[FZ]at this;exact absurd he this
   |succ n=>
    exact ih n _ _ (SH h) (AP.mp (un _ (xm _))) he
theorem adV(hs:owner.size=m)(hl:(owned owner (bw m)).length<m):∃e,e<m/\(owner.getD e (ae 0)).isNone=ag:=by
 refine ay (JA (xs:=(owned owner (bw m)).map (·.1)) (n:=m) (by rewrite[bp];exact hl)) ?_;intro e he hf;refine⟨e,he,?_⟩;cases h:owner.getD e (ae 0)with
 |none=>rfl
 |some v=>
  exfalso
  apply hf;rewrite[bH];refine⟨(e,v),?_,rfl⟩;unfold owned;rewrite[Oq];refine⟨e,er.mpr he,?_⟩;have:owner.getD e ai=ae v:=by
   refine aQ (h ..) ?_;simp[kF,hs,he]
  refine aa (this ..) ?_;rfl
theorem Lx(hm:xP mask):∀(hs:List Int) (owner:Array (Option Nat)) (k:Nat),owner.size=mask+1->((owned owner (bw (mask+1))).map (·.2)).Perm (bw k)->k+hs.length<=mask->
 ∃EZ,hs.foldl (λ(acc:Option (Array (Option Nat)×Nat)) h=>do
  let(owner,k)<-acc
  let j<-xu mask owner (mS mask) (gb h % (mask+1)) (gb h)
  pure (owner.setIfInBounds j (ae k),k+1)) (ae (owner,k))=ae (EZ,k+hs.length)/\EZ.size=mask+1/\((owned EZ (bw (mask+1))).map (·.2)).Perm (bw (k+hs.length))
 |[],owner,k,h1,h2,_=>⟨owner,rfl,h1,h2⟩
 |h::hs,owner,k,h1,h2,h3=>by
  rw[dX]at h3;have zk:(owned owner (bw (mask+1))).length=k:=by simpa using h2.length_eq
  refine ay (adV h1 (by refine aa (zk ..) ?_;exact SI h3)) ?_;intro e he hf;refine ay (LA hm h (e:=e) (BP he)) ?_;intro n hn hx;refine cb (YK (owner:=owner) n (mS mask) _ _ (by unfold mS;exact SK hn) (AP.mp (un (gb h) (xm mask))) (by refine aa (hx ..) ?_;exact hf)) ?_;intro j hj Ko Dj;have Kp:j<owner.size:=HG h1 Ko;have Z8:owner.getD j ai=ai:=by
   have:owner.getD j ai=owner.getD j (ae 0):=by simp[kF,Kp]
   refine aa (this ..) ?_;refine aa (Dj ..) ?_;rfl
  (refine cb (Lx hm hs (owner.setIfInBounds j (ae k)) (k+1) (by simpa using h1) (by
    refine((adX (k:=k) Kp Z8 (AH (n:=mask+1)) (er.mpr (BR Ko))).map _).trans ?_;refine aa (bB ..) ?_;refine aa (AJ (n:=k) ..) ?_;exact(h2.cons k).trans (List.perm_append_singleton k _).symm) (xT h3)) ?_;intro o' e1 e2 e3)
  refine⟨o',?_,e2,?_⟩
  ·refine aa (lx ..) ?_
   have:(do
    let(owner,k)<-ae (owner,k)
    let j<-xu mask owner (mS mask) (gb h % (mask+1)) (gb h)
    pure (owner.setIfInBounds j (ae k),k+1):Option (Array (Option Nat)×Nat))=ae (owner.setIfInBounds j (ae k),k+1):=by
    refine(?_:(xu mask owner (mS mask) (gb h % (mask+1)) (gb h)).bind (λj=>ae (owner.setIfInBounds j (ae k),k+1))=_);refine aa (hj ..) ?_;rfl
   refine aa (this ..) ?_;refine aa (e1 ..) ?_;refine aa (dX ..) ?_
   congr 2
   exact G6
  ·(refine aa (dX ..) ?_;refine aa ((show k+(hs.length+1)=k+1+hs.length by exact G7) ..) ?_)
   exact e3
theorem adW:owned (NT m ai) (bw m)=[]:=by
 unfold owned;rewrite[List.filterMap_eq_nil_iff];intro j hj;simp[kF,(er.mp hj)]
theorem adU(owner:Array (Option Nat))(m:Nat):((owned owner (bw m)).map (·.1)).Pairwise (·< ·):=by
 unfold owned;refine aa (List.map_filterMap ..) ?_;have:(λj:Nat=>((owner.getD j ai).map λv=>(j,v)).map (·.1))= λj=>if(owner.getD j ai).isSome then ae j else ai:=by
  funext j
  cases owner.getD j ai<;>rfl
 refine aa (this ..) ?_;have h2:(bw m).filterMap (λj=>if(owner.getD j ai).isSome then ae j else ai)=(bw m).filter λj=>(owner.getD j ai).isSome:=by
  generalize bw m=l;induction l with
  |nil=>rfl
  |cons a l ih=>
   refine aa (uf ..) ?_;refine aa (w9 ..) ?_;refine aQ (ih ..) ?_;cases h:(owner.getD a ai).isSome<;>rfl
 refine aa (h2 ..) ?_;exact AC _ Oz
theorem MB{t:SetTable}(hn:es.size=5):∃t' order,t.relaid (es.map (·.1)) (oW es.size)=ae (t',order)/\fN t' 5/\t'.mask=31/\t'.led=t.led/\t'.plain=t.plain/\order.toList.Perm (bw es.size):=by
 have hg:Pk (oW es.size)=32:=by refine aa (hn ..) ?_;decide+kernel
 unfold SetTable.relaid;refine aa (hg ..) ?_;have hm:xP 31:=.inr rfl;refine cb (Lx hm (es.map (·.1)).toList (NT (31+1) ai) 0 (by rfl) (by refine aa (adW ..) ?_;exact .refl _) (by simp[hn])) ?_;intro o' e1 e2 e3;have hlen:0+(es.map (·.1)).toList.length=5:=by simp[hn]
 rw[hlen]at e1 e3;have hl:(owned o' (bw (31+1))).length=5:=by simpa using e3.length_eq
 have hc:Pi 31 (es.map (·.1))=ae o':=by
  unfold Pi;rewrite[<-Array.foldl_toList];exact congrArg (ur F7) e1
 refine⟨{mask:=31,place:=((owned o' (bw (31+1))).map (·.1)).toArray,dummies:= #[],finger:=t.finger,led:=t.led,moves:=t.movedTo 31,plain:=t.plain},((owned o' (bw (31+1))).map (·.2)).toArray,?_,⟨?_,rfl,?_,.inr rfl,?_⟩,rfl,rfl,rfl,?_⟩
 ·refine(?_:Ph 31 _ _ _ _ _=_)
  unfold Ph;refine aa (hc ..) ?_;rfl
 ·exact adU o' 32
 ·simp[hl]
 ·show 5<31;decide
 ·refine aa (hn ..) ?_;exact e3
theorem Mo{order:Array Nat}(hp:order.toList.Perm (bw es.size)):(order.filterMap (es[·]?)).toList.Perm es.toList:=by
 refine aa (Array.toList_filterMap ..) ?_;exact(hp.filterMap _).trans (by(rewrite[filterMap_getElem?_range];rfl))
end
section
section
variable{X:Fx}{A:bG}{E:Value->aV->Prop}
noncomputable abbrev AK(X:Fx):=fv X.prog X.w
noncomputable abbrev TK(X:Fx):=pi (AK X)
noncomputable abbrev dk(es:Array (Int×Value))(ep:Nat)(t:SetTable):Obj:={cls:=.type "set",dict:=ai,data:=.set es ep t,slots:= #[]}
theorem Le(h:AZ (AK X) ks vs):∀v∈vs,∃k:Atom,k.is v=ag:=by
 induction h with
 |nil=>intro v hv;cases hv
 |cons h1 _ ih=>
  intro v hv;rcases cH.mp hv with rfl|hv
  ·exact⟨_,h1⟩
  ·exact ih v hv
theorem W0{k:Atom}(h:k.is v=ag)(d:Nat):ofAClassStatement d v=pure aq:=by
 cases k
 ·(refine aM (oX h) ?_;rintro t rfl);unfold ofAClassStatement;rfl
 ·(refine aM (oY h) ?_;rintro t rfl);unfold ofAClassStatement;rfl
theorem IU{a:aL}{Q:Bool->aV->Prop}(hk:gw (AK X) s.heap ks a)(h:Q aq s):bm (bN X.prog X.w) A (ofAClassStatement 8 (.ref a)) Q E s:=by
 have hT:=hk.typeIs;refine se hk ?_;clear hk;intro o items n ho aj hd hi;unfold ofAClassStatement;refine ax (xN hT ?_);dsimp only;refine aa (if_pos (by rfl) ..) ?_;refine ax (aP ?_);simp only[↓vU];refine ax (xL ho hd ?_);dsimp only;refine ax ?_;refine aQ (NQ ..) ?_;refine GR _ (λrest r s'=>r.1=ai/\s'=s/\∀v∈rest,∃k:Atom,k.is v=ag) _ ?_ ?_ _ _ ⟨rfl,rfl,Le hi⟩
 ·(intro v;intro rest;intro r;intro s';intro aj;refine eB aj ?_;clear aj;rintro hr rfl aZ)
  refine aM (aZ v ca) ?_;intro k hk;rewrite[W0 hk];refine ax (aP ?_);simp only[dF,↓dy,if_false];exact aP ⟨rfl,rfl,λu vP=>aZ u (cI _ vP)⟩
 ·(intro aj;rcases aj with⟨r1,r2⟩;intro s';intro aB;refine eB aB ?_;clear aB;rintro hr rfl dv)
  simp only at hr;subst hr;exact aP h
theorem Zj{k:Atom}(h:k.is v=ag)(d:Nat):∃b,xz d v=pure b:=by
 cases k
 ·(refine aM (oX h) ?_;rintro t rfl)
  refine⟨ag,?_⟩;cases d<;>(unfold xz;rfl)
 ·(refine aM (oY h) ?_;rintro t rfl)
  refine⟨aq,?_⟩;cases d<;>(unfold xz;rfl)
theorem Zk{a:aL}{Q:Bool->aV->Prop}(hk:gw (AK X) s.heap ks a)(h:∀b,Q b s):bm (bN X.prog X.w) A (xz 8 (.ref a)) Q E s:=by
 have hT:=hk.typeIs;refine se hk ?_;clear hk;intro o items n ho aj hd hi;unfold xz;refine ax (Bs hT F.slot_tuple_hash.lookup ?_);dsimp only;refine ax (xL ho hd ?_);refine ax ?_;refine(?_:bm _ _ (forIn items _ _) _ _ s);refine aQ (NQ ..) ?_;refine GR _ (λrest r s'=>s'=s/\∀v∈rest,∃k:Atom,k.is v=ag) _ ?_ ?_ _ _ ⟨rfl,Le hi⟩
 ·(intro v;intro rest;intro r;intro s';intro aj;refine aK aj ?_;clear aj;rintro rfl aZ)
  refine aM (aZ v ca) ?_;intro k hk;refine aM (Zj hk 7) ?_;intro b e;refine aa (e ..) ?_;refine ax (aP ?_);cases b
  ·simp only[↓K3]
   exact aP (aP (h _))
  ·simp only[↓vU]
   exact aP ⟨rfl,λu vP=>aZ u (cI _ vP)⟩
 ·(intro aj;rcases aj with⟨r1,r2⟩;intro s';intro aB;refine aK aB ?_;clear aB;rintro rfl dv)
  cases r1<;>exact aP (h _)
def By(X:Fx)(h:Heap)(es:List (Int×Value)):Prop:=∀e∈es,∃ks b,e.2=.ref b/\gw (AK X) h ks b
theorem aex{a:aL}{stored:List Value}{Q:Bool->aV->Prop}(hk:gw (AK X) s.heap ks a)(hs:∀v∈stored,∃ks b,v=.ref b/\gw (AK X) s.heap ks b)(h:Q aq s):
 bm (bN X.prog X.w) A (Ps (.ref a) stored) Q E s:=by
 unfold Ps;refine ax ?_;refine GR _ (λrest r s'=>r.1=ai/\s'=s/\∀v∈rest,∃ks b,v=.ref b/\gw (AK X) s.heap ks b) _ ?_ ?_ _ _ ⟨rfl,rfl,hs⟩
 ·(intro v;intro rest;intro r;intro s';intro aj;refine eB aj ?_;clear aj;rintro hr rfl aZ)
  refine cZ (aZ v ca) ?_;rintro zH b rfl dR
  have tB:=λu vP=>aZ u (cI _ vP);dsimp only;split
  ·exact aP ⟨rfl,rfl,tB⟩
  ·refine ax (PA hk ?_)
   simp only[↓vU];refine ax (PA dR ?_);simp only[↓vU];refine ax (IU hk ?_);simp only[dF,↓dy,if_false];refine ax (IU dR ?_);simp only[dF,↓dy,if_false];exact aP ⟨rfl,rfl,tB⟩
 ·(intro aj;rcases aj with⟨r1,r2⟩;intro s';intro aB;refine eB aB ?_;clear aB;rintro hr rfl dv)
  simp only at hr;subst hr;exact aP h
theorem aew{a:aL}{t:SetTable}{Q:SetFound->aV->Prop}(hu:A.units<cLine)(ho:s.heap.get? S=ae (dk es ep t))(T:fN t es.size)(hE:By X s.heap es.toList)(hk:gw (AK X) s.heap ks a){h:Int}{p0:nR}{K:Nat}(vK:p0=t.probeStart h)(hK:t.slot (eN t K p0).j=.empty)(Y7:K<10*mS t.mask)(q1:(∃e∈es.toList,∃b,e.2=.ref b/\gw (AK X) s.heap ks b)->Q (.there ai) s)(q2:∀j,t.slot j=.empty->Q (.free j aq) s):∀(d k fuel:Nat) (st:Option nR),k+d=K->d<fuel->st.getD p0=eN t k p0->bm (bN X.prog X.w) A (setSearchFrom S (.ref a) h ag fuel st) Q E s:=by
 intro d k fuel;induction fuel generalizing d k with
 |zero=>
  intro st _ hf _;omega
 |succ fuel ih=>
  intro st dQ hf Yd;unfold setSearchFrom;refine ax (lD ho rfl T.fits ?_);dsimp only;refine aa (T.odd ..) ?_;simp only[dF,↓dy,if_false];refine aQ (vK ..) ?_;refine aa (Yd ..) ?_;have Dd:∀k,(eN t k p0).dummy=ai:=λk=>Iu k p0 (by refine aa (vK ..) ?_;rfl);unfold Pj;rcases Mw T hK Dd (hashAt:=_) (h:=h) d k (10*mS t.mask) dQ (SL Y7 dQ)with⟨j,h1,h2⟩|⟨k',i,h1,h2,h3,h4,h5⟩
  ·refine aa (h1 ..) ?_
   exact aP (q2 j h2)
  ·refine aa (h3 ..) ?_
   dsimp only;have hi:t.place[i]? =ae (eN t k' p0).j:=ae6 h4;have iD:i<es.size:=by refine aQ (T.sz ..) ?_;exact(ua.mp hi).1
   refine aM (⟨es[i],by simp[iD]⟩:∃e,es[i]? =ae e) ?_;intro e he;rcases e with⟨e1,e2⟩
   have Kg:(e1,e2)∈es.toList:=by rw[<-oO]at he;exact eD he
   refine cZ (hE _ Kg) ?_;intro zH b hb dR;simp only at hb;subst hb;have main:bm (bN X.prog X.w) A (do
    let ae (_,y):=es[i]? |unsupported "internal:set-entry"
    let equal<-fb [y] (eqBool y (.ref a))
    let(bI,_,t')<-setState S
    if ag&&equal then return .there ai
    let ae same:=t'.sameMemory t.moves t.mask|unsupported "set.changed-during-lookup:is-the-new-block-at-the-old-address"
    let Fg<-match(if same then t'.slot (eN t k' p0).j else .empty)with
     |.live i'=>match bI[i']? with
      |some (_,y')=>do pure (if<-isSame y' y then ae i' else ai)
      |none=>pure ai
     |_=>pure ai
    match Fg with
    |none=>rule "set.search.anew";setSearchFrom S (.ref a) h ag fuel ai
    |some i'=>if equal then return .there (ae i')else setSearchFrom S (.ref a) h ag fuel (ae (eN t (k'+1) p0))) Q E s:=by
    refine aa (he ..) ?_;dsimp only;refine ax (cU ((TK X).eqBool hu dR hk ?_));refine ax (lD ho rfl T.fits ?_);dsimp only;by_cases gJ:zH=ks
    ·subst gJ
     refine aa (if_pos (show(ag&&decide (zH=zH))=ag from decide_eq_true rfl) ..) ?_;exact aP (q1 ⟨_,Kg,b,rfl,dR⟩)
    ·simp only[gJ,decide_false,NV,dF,↓dy,if_false]
     have aaN:t.sameMemory t.moves t.mask=ae ag:=by unfold SetTable.sameMemory;simp
     refine aa (aaN ..) ?_;dsimp only;refine aa (if_pos rfl ..) ?_;refine aa (h4 ..) ?_;dsimp only;refine aa (he ..) ?_;dsimp only;refine ax (wpAny_isSame_ref_self ?_);refine ax (aP ?_);simp only[↓fw,if_true];exact ih (K - (k'+1)) (k'+1) _ (SM h2) (SN dQ hf h1 h2) rfl
   cases hl:t.led
   ·simp only[↓K3]
    refine ax (aex hk (λv hv=>?_) ?_)
    ·(refine ay (bH.mp hv) ?_;rintro e ZM rfl)
     have:e∈es.toList:=by
      have:=NR.mp ZM;rw[Array.mem_filter]at this;exact NR.mpr this.1
     exact hE e this
    ·simp only[dF,↓dy,if_false]
     exact main
   ·simp only[↓vU]
    exact main
end
end
section
structure iA(t:SetTable)(n:Nat):Prop extends fN t n where
 lim:(t.mask=7/\n<=4)\/(t.mask=31/\n<=16)
theorem fN.Fg{t t':SetTable}{n:Nat}(T:fN t n)(h1:t'.place=t.place)(h2:t'.dummies=t.dummies)(h3:t'.mask=t.mask):fN t' n:=
 ⟨by refine aa (h1 ..) ?_;exact T.uT,by refine aa (h2 ..) ?_;exact T.dm,by refine aa (h1 ..) ?_;exact T.sz,by refine aa (h3 ..) ?_;exact T.mo,by refine aa (h3 ..) ?_;exact T.le⟩
section
variable{X:Fx}{A:bG}{E:Value->aV->Prop}
theorem Ab{bI:Array (Int×Value)}{t t':SetTable}(ho:h.get? S=ae (dk es ep t)):(h.update S (Gv bI t')).get? S=ae (dk bI (ep+1) t'):=by
 have:=nP (Gv bI t') ho (by refine aa (putSet_of bI t' rfl ..) ?_;rfl);rw[putSet_of bI t' rfl]at this;exact this
theorem Nr{t:SetTable}{n:Nat}(T:fN t n):t.tooFull=decide (t.mask*3<=n*5):=by
 unfold SetTable.tooFull Pg;refine aa (T.dm ..) ?_;refine aa (T.sz ..) ?_;rfl
theorem aej{t:SetTable}{Q:Bool->aV->Prop}{b:Bool}(ho:s.heap.get? S=ae (dk es ep t))(T:fN t es.size)(hl:(t.mask=7/\es.size<=5)\/(t.mask=31/\es.size<=16))
 (q:∀h' bI fi t',jW S s.heap h'->h'.get? S=ae (dk bI fi t')->iA t' bI.size->t'.led=t.led->bI.toList.Perm es.toList->Q b {s with heap:=h'}):
 bm (bN X.prog X.w) A (do
  if(!aq&&t.tooFull)=ag then do
   setRelay S (oW es.size)
   pure b
  else pure b) Q E s:=by
 simp only[Ay,AA];refine aa (Nr T ..) ?_;by_cases h5:es.size=5/\t.mask=7
 ·refine aa (if_pos (by(refine aa ((h5.1) ..) ?_;refine aa ((h5.2) ..) ?_);rfl) ..) ?_
  refine ax ?_;unfold setRelay;refine ax (lD ho rfl T.fits ?_);dsimp only;have hg:Pk (oW es.size)=32:=by refine aa (h5.1 ..) ?_;decide+kernel
  refine aa (hg ..) ?_;refine aa (if_neg (by refine aa ((lC) ..) ?_;decide) ..) ?_;refine NK (MB (t:=t) h5.1) ?_;intro t' order e1 T' hm vF aj hp;refine aa (e1 ..) ?_
  have gh:=Mo (es:=es) hp;have bW:(order.filterMap (es[·]?)).size=es.size:=by(refine aQ (kG ..) ?_;refine aa (gh.length_eq ..) ?_;refine aa (kG ..) ?_;rfl)
  refine ax ?_;show bm _ _ (do
   if(order.filterMap (es[·]?)).size !=es.size then unsupported "internal:set-table-lost-an-element"
   pure (order.filterMap (es[·]?),t')) _ _ _
  refine aa (bW ..) ?_;simp only[bne_self_eq_false,dF,↓dy,if_false];refine aP ?_;dsimp only;refine Bt ho rfl ?_ (by(refine aa (bW ..) ?_;refine aa (h5.1 ..) ?_;refine aa (lC ..) ?_);decide);refine aP ?_;refine q _ _ _ _ (ja _ _ _) (Ab ho) ⟨by(refine aa (bW ..) ?_;refine aa (h5.1 ..) ?_);exact T',.inr ⟨hm,by(refine aa (bW ..) ?_;refine aa (h5.1 ..) ?_);decide⟩⟩ vF gh
 ·have kX:(t.mask=7/\es.size<=4)\/(t.mask=31/\es.size<=16):=SO hl h5
  refine aa (if_neg (by simp only[decide_eq_true_eq];exact SP kX) ..) ?_;have e:s={s with heap:=s.heap}:=by cases s;rfl
  refine aP ?_;refine aa (e ..) ?_;exact q s.heap es ep t (xq _ _) ho ⟨T,kX⟩ rfl (.refl _)
theorem Vv{a:aL}{t:SetTable}{Q:Bool->aV->Prop}(hu:A.units<cLine)(ho:s.heap.get? S=ae (dk es ep t))(T:iA t es.size)(hn:es.size<=15)(hE:By X s.heap es.toList)(hk:gw (AK X) s.heap ks a){h:Int}
 (q:∀r h' bI fi t',jW S s.heap h'->h'.get? S=ae (dk bI fi t')->iA t' bI.size->t'.led=t.led->((bI=es/\∃e∈es.toList,∃b,e.2=.ref b/\gw (AK X) s.heap ks b)\/bI.toList.Perm (es.toList++[(h,.ref a)]))->Q r {s with heap:=h'}):
 bm (bN X.prog X.w) A (Bm S (.ref a) h) Q E s:=by
 unfold Bm;refine cU ?_;unfold GN;refine ax (lD ho rfl T.fits ?_);dsimp only;have hb:byScan (.ref a) es=aq:=rfl;refine aa (hb ..) ?_;simp only[dF,↓dy,if_false];refine cb (T.turns h) ?_;intro K C2 JW C3;refine ax ?_;unfold setSearch;refine aew hu ho T.tofN hE hk rfl C3 C2 (λaaV=>?_) (λj hj=>?_) K 0 100000 ai (BY) (SQ JW) rfl
 ·have e:s={s with heap:=s.heap}:=by cases s;rfl
  refine aP ?_;refine aa (e ..) ?_;exact q aq s.heap es ep t (xq _ _) ho T rfl (.inl ⟨rfl,aaV⟩)
 ·refine ax (lD ho rfl T.fits ?_)
  dsimp only;refine lY (T.tofN.put hj (by have:=T.lim;exact HH this)) ?_;intro T' l1 l2 l3 l4;have oe:(iR es (t.put j).2 (h,sC a)).size=es.size+1:=DJ _ _ _;have tail:∀b:Bool,bm (bN X.prog X.w) A (do
   storeSet S (iR es (t.put j).2 (h,sC a)) (if b=ag then(t.put j).1 else{(t.put j).1 with plain:=aq})
   if(!aq&&(if b=ag then(t.put j).1 else{(t.put j).1 with plain:=aq}).tooFull)=ag then do
    setRelay S (oW (es.size+1))
    pure ag
   else pure ag) Q E s:=by
   intro b;have Tb:fN (if b=ag then(t.put j).1 else{(t.put j).1 with plain:=aq}) (es.size+1):=by
    cases b
    ·exact T'.Fg rfl rfl rfl
    ·exact T'
   have Tm:(if b=ag then(t.put j).1 else{(t.put j).1 with plain:=aq}).mask=t.mask:=by cases b<;>exact l3
   have Tl:(if b=ag then(t.put j).1 else{(t.put j).1 with plain:=aq}).led=t.led:=by cases b<;>exact l1
   generalize(if b=ag then(t.put j).1 else{(t.put j).1 with plain:=aq})=tb at*;refine ax (Bt ho rfl ?_ (by(refine aa (oe ..) ?_;refine aa (lC ..) ?_);exact HI hn));rw[<-oe]at Tb⊢;refine aej (s:={s with heap:=_}) (Ab ho) Tb (by(refine aa (oe ..) ?_;refine aa (Tm ..) ?_);have:=T.lim;exact SS hn this) λh' bI fi t' a1 a2 a3 a4 a5=>?_;refine q ag h' bI fi t' ((ja _ _ _).trans a1) a2 a3 (a4.trans Tl) (.inr (a5.trans ?_))
   have:=Gy es (t.put j).2 (h,sC a);rw[FB]at this;exact this
  cases mw:(t.put j).1.plain
  ·simp only[dF,↓dy,if_false]
   refine ax (aP ?_);exact tail ag
  ·simp only[↓fw,if_true]
   refine ax (Zk hk λb=>?_);exact tail b
end
end
section
section
variable{X:Fx}{A:bG}{E:Value->aV->Prop}
noncomputable abbrev IK(X:Fx):=uB X.prog X.w
theorem YL{t:SetTable}{n:Nat}(T:fN t n)(h:Int):∃j,t.freeSlot h=ae (j,aq)/\t.slot j=.empty:=by
 refine cb (T.turns h) ?_;intro K C2 JW C3;unfold SetTable.freeSlot Pj;rcases Mw T C3 (λk=>Iu k _ rfl) (hashAt:=λU=>h+1) (h:=h) K 0 (10*mS t.mask) (BY) (SU C2)with⟨j,h1,h2⟩|⟨k',i,h1,h2,h3,h4,h5⟩
 ·have mi:A2 t (λU=>h+1) h (10*mS t.mask) (t.probeStart h)=ae (.empty j ai):=h1
  refine aa (mi ..) ?_;exact⟨j,rfl,h2⟩
 ·omega
theorem add_int{i:Int}{tk:iw}{t:SetTable}{Q:Bool->aV->Prop}(ho:s.heap.get? S=ae (dk es ep t))(T:iA t es.size)(hn:(∀e∈es.toList,(IK X).is i e.2=aq)->es.size<=15)(hE:AW (IK X) es.toList)
 (q:∀r h' bI fi t',jW S s.heap h'->h'.get? S=ae (dk bI fi t')->iA t' bI.size->t'.led=t.led->AW (IK X) bI.toList->((bI=es/\∃e∈es.toList,(IK X).is i e.2=ag)\/((∀e∈es.toList,(IK X).is i e.2=aq)/\bI.toList.Perm (es.toList++[((IK X).hash i,.int i tk)])))->Q r {s with heap:=h'}):
 bm (bN X.prog X.w) A (Bm S (.int i tk) ((IK X).hash i)) Q E s:=by
 have rA:(IK X).is i (.int i tk)=ag:=sF _ _ _ _;unfold Bm;refine cU ?_;unfold GN;refine ax (lD ho rfl T.fits ?_);dsimp only;have hb:byScan (.int i tk) es=ag:=byScan_of (knd:=IK X) rfl (by have:=T.lim;show es.size<4096;exact SV this) hE;refine aa (hb ..) ?_;simp only[↓fw,if_true];refine ax ?_;unfold setAddByScan;refine ax (qS ?_);refine ax (wpAny_setScan_of (knd:=IK X) rA ho rfl T.fits hE ?_);cases hr:List.findIdx? (λe=>(IK X).is i e.2) es.toList with
 |some j=>
  dsimp only;refine ay (List.findIdx?_eq_some_iff_getElem.mp hr) ?_;intro hj aaz aj;have e:s={s with heap:=s.heap}:=by cases s;rfl
  refine aP (aP ?_);refine aa (e ..) ?_;exact q _ s.heap es ep t (xq _ _) ho T rfl hE (.inl ⟨rfl,_,ly hj,aaz⟩)
 |none=>
  dsimp only;have Kx:∀e∈es.toList,(IK X).is i e.2=aq:=λe he=>by
   exact Og.mp hr e he
  have hn:=hn Kx;refine ay (YL T.tofN ((IK X).hash i)) ?_;intro j hj aaL;refine lY (T.tofN.put aaL (by have:=T.lim;exact HH this)) ?_;intro T' l1 l2 l3 l4;have oe:(iR es (t.put j).2 ((IK X).hash i,jY i tk)).size=es.size+1:=DJ _ _ _;have Do:layNew t es ((IK X).hash i) (.int i tk)=(iR es (t.put j).2 ((IK X).hash i,jY i tk),(t.put j).1,aq,aq):=by
   unfold layNew;refine aa (hj ..) ?_;dsimp only;have hf:(t.put j).1.fits (iR es (t.put j).2 ((IK X).hash i,jY i tk)).size=ag:=by refine aa (oe ..) ?_;exact T'.fits
   unfold SetTable.orStandIn;refine aa (if_pos hf ..) ?_;refine aa (hf ..) ?_;rfl
  have gh:(iR es (t.put j).2 ((IK X).hash i,jY i tk)).toList.Perm (es.toList++[((IK X).hash i,.int i tk)]):=by
   have:=Gy es (t.put j).2 ((IK X).hash i,jY i tk);rw[FB]at this;exact this
  have agR:AW (IK X) (iR es (t.put j).2 ((IK X).hash i,jY i tk)).toList:=(hE.push rA rfl).perm gh;refine aa (Do ..) ?_;dsimp only;refine ax (m:=match aq with|true=>rule "set.scan.the-table-gave-way"|false=>pure ()) (aP ?_);have tail:∀(g:Bool->eL Unit),g aq=pure ()->∀{R:Option Bool->aV->Prop},(∀h' bI fi t',jW S s.heap h'->h'.get? S=ae (dk bI fi t')->iA t' bI.size->t'.led=t.led->bI.toList.Perm (es.toList++[((IK X).hash i,.int i tk)])->R (ae ag) {s with heap:=h'})->
   bm (bN X.prog X.w) A (do
    storeSet S (iR es (t.put j).2 ((IK X).hash i,jY i tk)) (t.put j).1
    if(!aq&&(t.put j).1.tooFull)=ag then do
     g (xC (t.put j).1 (iR es (t.put j).2 ((IK X).hash i,jY i tk)) (oW (iR es (t.put j).2 ((IK X).hash i,jY i tk)).size)).2.2
     storeSet S (xC (t.put j).1 (iR es (t.put j).2 ((IK X).hash i,jY i tk)) (oW (iR es (t.put j).2 ((IK X).hash i,jY i tk)).size)).1 (xC (t.put j).1 (iR es (t.put j).2 ((IK X).hash i,jY i tk)) (oW (iR es (t.put j).2 ((IK X).hash i,jY i tk)).size)).2.1
     pure (ae ag)
    else pure (ae ag)) R E s:=by
   intro g hg R q';generalize iR es (t.put j).2 ((IK X).hash i,jY i tk)=es1 at*;generalize(t.put j).1=t1 at*;rw[<-oe]at T';refine ax (Bt ho rfl ?_ (by(refine aa (oe ..) ?_;refine aa (lC ..) ?_);exact HI hn));have km:(s.heap.update S (Gv es1 t1)).get? S=ae (dk es1 (ep+1) t1):=Ab ho;simp only[Ay,AA];refine aa (Nr T' ..) ?_;by_cases h5:es1.size=5/\t1.mask=7
   ·refine aa (if_pos (by(refine aa ((h5.1) ..) ?_;refine aa ((h5.2) ..) ?_);rfl) ..) ?_
    refine NK (MB (t:=t1) h5.1) ?_;intro t' order e1 T2 hm vF aj hp
    have KB:=Mo (es:=es1) hp;have bW:(order.filterMap (es1[·]?)).size=es1.size:=by(refine aQ (kG ..) ?_;refine aa (KB.length_eq ..) ?_;refine aa (kG ..) ?_;rfl)
    have tA:xC t1 es1 (oW es1.size)=(order.filterMap (es1[·]?),t',aq):=by
     unfold xC;refine aa (e1 ..) ?_;dsimp only;have hc:coversAll order es1.size=ag:=by unfold coversAll;exact List.isPerm_iff.mpr hp
     refine aa (hc ..) ?_;refine aa (bW ..) ?_;refine aa (h5.1 ..) ?_;refine aa (T2.fits ..) ?_;rfl
    refine aa (tA ..) ?_;dsimp only;refine aa (hg ..) ?_;refine ax (aP ?_);refine ax (Bt (s:={s with heap:=_}) km rfl ?_ (by(refine aa (bW ..) ?_;refine aa (h5.1 ..) ?_;refine aa (lC ..) ?_);decide));refine aP ?_;exact q' _ _ _ _ ((ja _ _ _).trans (ja _ _ _)) (Ab km) ⟨by(refine aa (bW ..) ?_;refine aa (h5.1 ..) ?_);exact T2,.inr ⟨hm,by(refine aa (bW ..) ?_;refine aa (h5.1 ..) ?_);decide⟩⟩ (vF.trans l1) (KB.trans gh)
   ·have nj:=T.lim
    refine aa (if_neg (by simp only[decide_eq_true_eq];exact SX oe l3 h5 nj) ..) ?_;refine aP ?_;exact q' _ _ _ _ (ja _ _ _) km ⟨T',SY hn oe l3 h5 nj⟩ l1 gh
  have fin:∀h' bI fi t',jW S s.heap h'->h'.get? S=ae (dk bI fi t')->iA t' bI.size->t'.led=t.led->bI.toList.Perm (es.toList++[((IK X).hash i,.int i tk)])->
   bm (bN X.prog X.w) A (match ae ag with|some added=>pure added|none=>GN S (.int i tk) ((IK X).hash i) 99999) Q E {s with heap:=h'}:=
   λh' bI fi t' a1 a2 a3 a4 a5=>aP (q _ h' bI fi t' a1 a2 a3 a4 ((hE.push rA rfl).perm a5) (.inr ⟨Kx,a5⟩))
  cases mw:(t.put j).1.plain
  ·simp only[dF,↓dy,if_false]
   refine ax (aP ?_);simp only[↓fw,if_true];exact tail _ rfl fin
  ·simp only[↓fw,if_true]
   refine aa (hashByValue_scannable 8 (x:=.int i tk) rfl ..) ?_;refine ax (aP ?_);simp only[plainKind,↓fw,if_true];exact tail _ rfl fin
end
end
section
set_option maxHeartbeats 3200000
def jb(h₀ h:Heap):Prop:=∀b o,h₀.get? b=ae o->h.get? b=ae o
def xO(X:Fx)(h₀:Heap)(S:aL)(ld:Bool)(n:Nat)(P:Nat->Value->Prop)(C:Nat->Array (Int×Value)->Prop):Prop:=
 ∀(A:bG) (E:Value->aV->Prop) (i:Nat) (v:Value) (s:aV) es ep t (Q:Bool->aV->Prop),A.units<cLine->i<n->P i v->jb h₀ s.heap->s.heap.get? S=ae (dk es ep t)->iA t es.size->t.led=ld->C i es->
  (∀r h' tk bI fi t',s.toks<=tk->jW S s.heap h'->h'.get? S=ae (dk bI fi t')->iA t' bI.size->t'.led=ld->C (i+1) bI->Q r {s with heap:=h',toks:=tk})->
  bm (bN X.prog X.w) A (setAdd S v) Q E s
section
variable{X:Fx}{A:bG}{I:aL}{fp wr:List aL}{n:Nat}{P:Nat->Value->Prop}{St:Nat->Heap->Prop}{ld:Bool}{C:Nat->Array (Int×Value)->Prop}
theorem aeV(W:Walks X.prog X.w A.in1 I fp wr n P St)(S:aL)(rp:S∉fp)(Y9:h₀.objs.size<=S)(vT:∀b∈wr,h₀.objs.size<=b)(hu:A.in1.units<cLine)(ha:xO X h₀ S ld n P C):
 ∀(k i:Nat) (s:aV) es ep t,n - i=k->i<=n->St i s.heap->jb h₀ s.heap->s.heap.get? S=ae (dk es ep t)->iA t es.size->t.led=ld->C i es->
  (∀h' tk bI fi t',(∀b o,b∉S::wr->s.heap.get? b=ae o->h'.get? b=ae o)->h'.get? S=ae (dk bI fi t')->iA t' bI.size->t'.led=ld->C n bI->R (.ok (.ret .none)) {s with heap:=h',toks:=tk})->
  kM (bN X.prog X.w) A (.builtin "set.update.loop" ⟨[.ref S,.ref I],[]⟩) R s:=by
 have J0:S∉wr:=λh=>rp (W.sub _ h);have old:∀{h h':Heap},jb h₀ h->(∀b o,b∉S::wr->h.get? b=ae o->h'.get? b=ae o)->jb h₀ h':=λho hk b o e=>hk b o (λhb=>by
  have:=cq e;rcases cH.mp hb with rfl|hb
  ·exact absurd this (l9.mpr Y9)
  ·exact absurd this (l9.mpr (vT b hb))) (ho b o e)
 intro k;induction k with
 |zero=>
  intro i s es ep t hk hi eU hold ho T hl hC hR;have jL:i=n:=HJ hk hi;subst jL;refine qP OU ?_;refine aa (sB F9 _ ..) ?_;refine(?_:bm _ A.in1 (nU (.ref I)>>=_) _ _ s);refine ax (W.done s _ _ eU λh' tk dQ=>?_);refine(?_:bm _ A.in1 (ret jA) _ _ _);exact aP (hR h' tk es ep t (λb o hb e=>dQ b o (λh=>hb (cI _ h)) e) (dQ _ _ J0 ho) T hl hC)
 |succ k ih=>
  intro i s es ep t hk hi eU hold ho T hl hC hR;have bo:i<n:=HK hk;refine qP OU ?_;refine aa (sB F9 _ ..) ?_;refine(?_:bm _ A.in1 (nU (.ref I)>>=_) _ _ s);refine ax (W.item i s _ _ bo eU λv h1 tk hP aaP cV=>?_);refine(?_:bm _ A.in1 (fb [v] (setAdd S v)>>=_) _ _ _);refine ax (cU ?_);have pR:jb h₀ h1:=old hold λb o hb e=>cV b o (λh=>hb (cI _ h)) e;refine ha A.in1 _ i v {s with heap:=h1,toks:=tk} es ep t _ hu bo hP pR (cV _ _ J0 ho) T hl hC λr h2 nF bI fi t' U gm dZ T' ij Y2=>?_;refine aP ⟨sI F9 _,ih (i+1) _ bI fi t' (HL hk) bo (W.frame _ _ _ aaP λb hb o e=>?_) (old pR λb o hb e=>?_) dZ T' ij Y2 λh3 tX Ya X5 t3 vE a1 a2 a3 a4=>?_⟩
  ·exact(gm.2 b (λh:b=S=>rp (h▸hb))).trans e
  ·exact(gm.2 b (λh:b=S=>hb (h▸ca))).trans e
  ·refine hR h3 tX Ya X5 t3 (λb o hb e=>vE b o hb ?_) a1 a2 a3 a4
   exact(gm.2 b (λh:b=S=>hb (h▸ca))).trans (cV b o (λh=>hb (cI _ h)) e)
end
section
variable{X:Fx}{A:bG}{E:Value->aV->Prop}
noncomputable def gX(X:Fx):Bool:=!(X.w.params.followText "set-order")
theorem aeW(a:Value){Q₁:Value->aV->Prop}(h:Q₁ (.ref s.heap.objs.size) {s with heap:=s.heap.push (dk #[] 0 (.fresh 0 0 (gX X)))}):
 kM (bN X.prog X.w) A (.call (.builtin "set.__new__") ⟨[.type "set",a],[]⟩) (wants Q₁ E) s:=by
 refine GD ?_;show bm _ A.in1 (do checkBuiltinCall "set.__new__" ⟨[.type "set",a],[]⟩;again (.builtin "set.__new__" ⟨[.type "set",a],[]⟩)) _ _ s;refine ax (xK (F.newCall_set_1 a) (aP ⟨sI O4 _,qP F.entry_set_new ?_⟩));refine aa (sB O4 _ ..) ?_;unfold Builtin.«set.__new__» agD
 have gn:=sub_set_self;rcases s with⟨hp,g,d,tk,os⟩
 dsimp only
 wp_walk
 refine xJ (aP ?_);dsimp only;simp only[newObj];refine ax (wpAny_alloc (aP ?_));exact aP h
theorem YM(ld:Bool):iA (.fresh 0 0 ld) 0:=⟨⟨List.Pairwise.nil,rfl,rfl,.inl rfl,by show 0<7;decide⟩,.inl ⟨rfl,by decide⟩⟩
theorem IR{l:aL}{C:Nat->Array (Int×Value)->Prop}{Q:Value->aV->Prop}
 (hh:A.handled=ai)(hu:A.units+100<cLine)(hl:s.heap.IsList l items)(ha:xO X s.heap s.heap.objs.size (gX X) items.size (λi v=>items[i]? =ae v) C)(h0:C 0 #[])
 (h:∀(h':Heap) (tk:Nat) es ep t,h'.get? s.heap.objs.size=ae (dk es ep t)->iA t es.size->t.led=gX X->C items.size es->jb s.heap h'->Q (.ref s.heap.objs.size) {s with heap:=h',toks:=tk}):
 bm (bN X.prog X.w) A (call (.type "set") [.ref l]) Q E s:=by
 refine eC qK.mro ?_;intro c tl agZ
 have agY:=qK.made
 have gn:=qK.sub;refine Bp (GD ?_);refine(?_:bm _ _ (callAny (.type "set") _) _ _ _);refine aP ⟨Code.quiet_builtin _ (by decide+kernel),qP F.entry_type_call ?_⟩;refine aa (bG.under_plain (weight_type_call_type "set" [.ref l] []) rfl ..) ?_
 have h1:=qK.notType
 have h2:=qK.canCreate
 have agW:=F.typeCall_set_1 (.ref l);repeat(any_goals (first|assumption|wp_step))
 refine pc (aeW (X:=X) (.ref l) (E:=E) (Q₁:=λobj s₁=>obj=.ref s.heap.objs.size/\s₁={s with heap:=s.heap.push (dk #[] 0 (.fresh 0 0 (gX X)))}) ⟨rfl,rfl⟩) λr s₁ hr=>?_;cases r with
 |error e=>exact hr
 |ok fl=>
  cases fl with
  |ret obj=>
   refine aK hr ?_;clear hr;rintro rfl rfl;have hS:(s.heap.push (dk #[] 0 (.fresh 0 0 (gX X)))).get? s.heap.objs.size=ae (dk #[] 0 (.fresh 0 0 (gX X))):=dw _ rfl;have hT:aV.TypeIs {s with heap:=s.heap.push (dk #[] 0 (.fresh 0 0 (gX X)))} (.ref s.heap.objs.size) "set":=⟨_,hS,rfl⟩
   have zf:=qK.init.lookup
   have agU:=qK.init.bind (.ref s.heap.objs.size);repeat(any_goals (first|assumption|wp_step))
   refine pc (Po (R:=wants (λr s₂=>r=.none/\∃h' tk es ep t,s₂={s with heap:=h',toks:=tk}/\h'.get? s.heap.objs.size=ae (dk es ep t)/\iA t es.size/\t.led=gX X/\C items.size es/\jb s.heap h') E) qK.init.plain F.entry_set_init (check_set_init_1 hT ?_)) λr₂ s₂ hr₂=>?_
   ·(refine cb hl ?_;clear hl;intro ol zk gH aj;refine aM aj ?_;clear aj;intro nl y8)
    rcases ol with⟨ag3,adE,ag5,adT⟩
    simp only at gH y8;subst gH;subst y8;have aau:(s.heap.push (dk #[] 0 (.fresh 0 0 (gX X)))).get? l=ae {cls:=.type "list",dict:=adE,data:=.seq items nl,slots:=adT}:=cv _ zk
    have ag1:=F.sub_list_set
    have ag0:=F.sub_list_frozenset;have dJ:(nS "list"==nS "dict")=aq:=by decide
    have kW:(s.heap.push (dk #[] 0 (.fresh 0 0 (gX X)))).IsList l items:=⟨_,aau,rfl,nl,rfl⟩
    unfold Builtin.«set.__init__» noKeywords agG;generalize hPI:pf=PI
    wp_walk
    subst hPI;refine uG kW ?_;refine ax (wpAny_runValue ?_);have Kr:l<s.heap.objs.size:=cq zk;have ZY:A.in1.in1.in1.handled=ai:=by simp[hh]
    have aan:l≠(s.heap.push (dk #[] 0 (.fresh 0 0 (gX X)))).objs.size:=by
     rewrite[dI];exact dN (su Kr)
    have rp:s.heap.objs.size∉[(s.heap.push (dk #[] 0 (.fresh 0 0 (gX X)))).objs.size,l]:=by
     rewrite[dI];simp only[cH,eR,kJ,or_false,not_or];exact⟨dN (xe _),xi Kr⟩
    refine aeV (h₀:=s.heap) (ld:=gX X) (C:=C) (uz ZY _ l aan items) s.heap.objs.size rp (bj _) (λb hb=>?_) (by show A.units+1+1+1<cLine;exact SZ hu) ha (items.size - 0) 0 _ #[] 0 (.fresh 0 0 (gX X)) (HM) (cJ _)
     ⟨⟨_,dw _ rfl,rfl,rfl⟩,(kW.push _)⟩ (λb o e=>cv _ (cv _ e)) (cv _ hS) (YM _) rfl h0 λh' tk bI fi t' hk a1 a2 a3 a4=>?_
    ·(refine aa (eR.mp hb ..) ?_;rewrite[dI]);exact qF _
    ·refine(?_:bm _ _ _ _ _ _)
     refine aP ?_;refine(?_:bm _ _ (ret jA) _ _ _);refine aP ⟨rfl,h',tk,bI,fi,t',rfl,a1,a2,a3,a4,λb o e=>?_⟩
     have hb:=cq e;have kR:b≠(s.heap.push (dk #[] 0 (.fresh 0 0 (gX X)))).objs.size:=by
      rewrite[dI];exact dN (su hb)
     exact hk b o (by simp only[cH,eR,kJ,or_false,not_or];exact⟨(dN hb),kR⟩) (cv _ (cv _ e))
   ·cases r₂ with
    |error e=>exact hr₂
    |ok fl₂=>
     cases fl₂ with
     |ret r=>
      refine aK hr₂ ?_;clear hr₂;rintro rfl aB;refine Av aB ?_;clear aB;rintro h' tk es ep t rfl dv;refine lY dv ?_;clear dv;intro a1 a2 a3 a4 a5;repeat(any_goals (first|assumption|wp_step))
      exact h _ _ _ _ _ a1 a2 a3 a4 a5
     |_=>exact hr₂.elim
  |_=>exact hr.elim
end
end
section
section
variable{X:Fx}{ld:Bool}
structure lF{α:Type}(items:Array Value)(xs:List α)(i:Nat)(es:Array (Int×Value)):Prop where
 src:∀e∈es.toList,∃j,j<i/\items[j]? =ae e.2
 all:∀j,j<i->∃e∈es.toList,∃j':Nat,items[j']? =ae e.2/\xs[j']? =xs[j]?
 sz:es.size<=i
theorem lF.zero{α:Type}{xs:List α}:lF items xs 0 #[]:=⟨λe he=>by simp at he,λj hj=>by omega,bj _⟩
theorem lF.old{α:Type}{xs:List α}(h:lF items xs i es)(hx:∃e∈es.toList,∃j':Nat,items[j']? =ae e.2/\xs[j']? =xs[i]?):lF items xs (i+1) es where
 src:=λe he=>let⟨j,hj,e'⟩:=h.src e he;⟨j,nY hj,e'⟩
 all:=λj hj=>by
  by_cases e:j=i
  ·subst e;exact hx
  ·exact h.all j (sR hj e)
 sz:=F1 h.sz
theorem lF.new{α:Type}{xs:List α}{bI:Array (Int×Value)}(h:lF items xs i es)(hv:items[i]? =ae v)(hp:bI.toList.Perm (es.toList++[(hs,v)])):lF items xs (i+1) bI where
 src:=λe he=>by
  rcases d8.mp (hp.mem_iff.mp he)with h1|h1
  ·(refine ay (h.src e h1) ?_;intro j hj e');exact⟨j,nY hj,e'⟩
  ·refine aa (eR.mp h1 ..) ?_;exact⟨i,xV,hv⟩
 all:=λj hj=>by
  by_cases e:j=i
  ·subst e;exact⟨(hs,v),hp.mem_iff.mpr (qC _ (eR.mpr rfl)),j,hv,rfl⟩
  ·(refine ay (h.all j (sR hj e)) ?_;intro e' ob r)
   exact⟨e',hp.mem_iff.mpr (mP _ ob),r⟩
 sz:=by
  have:=hp.length_eq;simp at this
  have:=h.sz;exact S1 (by assumption) this
theorem wL{a:aL}(x:gw (AK X) h ks a)(o:jb h h'):gw (AK X) h' ks a:=
 let⟨o',it,n,ho,r⟩:=x;⟨o',it,n,o _ _ ho,r⟩
theorem Vz{xs:List (List Atom)}(hn:xs.length<=16)(hs:items.size=xs.length)(hk:∀(i:Nat) (v:Value),items[i]? =ae v->∃ks b,xs[i]? =ae ks/\v=.ref b/\gw (AK X) h₀ ks b):
 xO X h₀ S ld items.size (λi v=>items[i]? =ae v) (lF items xs):=by
 intro A E i v s es ep t Q hu hi hv hold ho T hl C q;refine kC (hk i v hv) ?_;rintro ks b hx rfl oh
 have Kq:=wL oh hold;unfold setAdd;refine cU ?_;refine ax ((TK X).pyHash hu Kq ?_);have hE:By X s.heap es.toList:=λe he=>by
  refine ay (C.src e he) ?_;intro j aj hj;refine kC (hk j _ hj) ?_;intro k9 b' aj e' dQ;exact⟨k9,b',e',wL dQ hold⟩
 refine Vv (s:={s with toks:=s.toks+(TK X).draws ks}) hu ho T (by have:=C.sz;exact S2 hn hs hi this) hE Kq λr h' bI fi t' a1 a2 a3 a4 a5=>?_;refine q r h' _ bI fi t' (Nat.le_add_right _ _) a1 a2 a3 (a4.trans hl) ?_;rcases a5 with⟨rfl,e,he,b2,e2,kR⟩|hp
 ·refine C.old ⟨e,he,?_⟩
  refine ay (C.src e he) ?_;intro j aj hj;refine kC (hk j _ hj) ?_;intro k9 b' k7 e' dQ;refine⟨j,hj,?_⟩;refine aa (k7 ..) ?_;refine aa (hx ..) ?_;rw[e2]at e';injection e' with e';subst e';refine aa (((wL dQ hold).inj kR) ..) ?_;rfl
 ·exact C.new hv hp
structure HoldsI(X:Fx)(items:Array Value)(xs:List Nat)(i:Nat)(es:Array (Int×Value)):Prop extends lF items xs i es where
 el:AW (IK X) es.toList
 ap:es.toList.Pairwise λe e'=>∀k,(IK X).is k e.2=ag->(IK X).is k e'.2=aq
theorem VO{es:List (Int×Value)}(ha:es.Pairwise λe e'=>∀k,(IK X).is k e.2=ag->(IK X).is k e'.2=aq)(hv:∀e∈es,∃k:Nat,k<16/\(IK X).is (k:Int) e.2=ag)(hi:i<16)(ik:∀e∈es,(IK X).is (i:Int) e.2=aq):es.length<=15:=by
 have key:∃ks:List Nat,ks.length=es.length/\ks.Nodup/\(∀k∈ks,k<16/\∃e∈es,(IK X).is (k:Int) e.2=ag):=by
  clear ik;induction es with
  |nil=>exact⟨[],rfl,.nil,λk hk=>by cases hk⟩
  |cons e es ih=>
   rw[nN]at ha;refine cb (ih ha.2 λe he=>hv e (cI _ he)) ?_;intro ks h1 h2 h3;refine ay (hv e ca) ?_;intro k cV dR;refine⟨k::ks,by simp[h1],lz.mpr ⟨λhm=>?_,h2⟩,λx hx=>?_⟩
   ·(refine aK (h3 k hm) ?_;intro aj aB;refine ay aB ?_;clear aB;intro e' ob rz)
    rw[ha.1 e' ob _ dR]at rz;exact ff rz
   ·rcases cH.mp hx with rfl|hx
    ·exact⟨cV,e,ca,dR⟩
    ·(refine aK (h3 x hx) ?_;intro a1 aj;refine ay aj ?_;clear aj;intro e' ob a2)
     exact⟨a1,e',cI _ ob,a2⟩
 refine cb key ?_;clear key;intro ks h1 h2 h3;have tz:i∉ks:=λhm=>by
  refine aK (h3 i hm) ?_;intro aj aB;refine ay aB ?_;clear aB;intro e he hk;rw[ik e he]at hk;exact ff hk
 have gn:(i::ks)⊆bw 16:=λx hx=>by
  rcases cH.mp hx with rfl|hx
  ·exact er.mpr hi
  ·exact er.mpr (h3 x hx).1
 have:=(lz.mpr ⟨tz,h2⟩).length_le_of_subset gn;rw[eZ,dX]at this;exact S3 h1 this
theorem HoldsI.zero{xs:List Nat}:HoldsI X items xs 0 #[]:=⟨lF.zero,λe he=>by simp at he,.nil⟩
theorem Vy{xs:List Nat}(KN:∀x∈xs,x<16)(hs:items.size=xs.length)(hk:∀(i:Nat) (v:Value),items[i]? =ae v->∃k t,xs[i]? =ae k/\v=.int (k:Int) t):
 xO X h₀ S ld items.size (λi v=>items[i]? =ae v) (HoldsI X items xs):=by
 intro A E i v s es ep t Q hu hi hv hold ho T hl C q;refine cZ (hk i v hv) ?_;rintro k tk hx rfl;have ii:∀e∈es.toList,∃k:Nat,k<16/\(IK X).is (k:Int) e.2=ag:=λe he=>by
  refine ay (C.src e he) ?_;intro j aj hj;refine cZ (hk j _ hj) ?_;intro k' t' k7 e';exact⟨k',KN k' (eD k7),by refine aa (e' ..) ?_;exact sF _ _ _ _⟩
 unfold setAdd;refine cU ?_;refine ax ((IK X).pyHash (k:=(k:Int)) (sF _ _ _ _) ?_);refine add_int (s:={s with toks:=s.toks+1}) ho T (λik=>?_) C.el λr h' bI fi t' a1 a2 a3 a4 a5 a6=>?_
 ·have:=VO C.ap ii (KN k (eD hx)) ik
  rw[kG]at this;exact this
 ·refine q r h' _ bI fi t' (qF _) a1 a2 a3 (a4.trans hl) ?_
  rcases a6 with⟨rfl,e,he,rz⟩|⟨ik,hp⟩
  ·refine⟨C.tolF.old ⟨e,he,?_⟩,C.el,C.ap⟩
   refine ay (C.src e he) ?_;intro j aj hj;refine cZ (hk j _ hj) ?_;intro k' t' k7 e';refine⟨j,hj,?_⟩;refine aa (k7 ..) ?_;refine aa (hx ..) ?_;have h2:(IK X).is (k':Int) e.2=ag:=by refine aa (e' ..) ?_;exact sF _ _ _ _
   refine aa (FK ((IK X).inj _ _ _ h2 rz) ..) ?_;rfl
  ·refine⟨C.tolF.new hv hp,a5,?_⟩
   refine(hp.pairwise_iff (λ{a b} fH k' oh=>?_)).mpr (Oy.mpr ⟨C.ap,qD _ _,λe he e' ob k' rz=>?_⟩)
   ·cases h:(IK X).is k' a.2 with
    |false=>rfl
    |true=>rw[fH k' h]at oh;exact ff oh
   ·refine aa (eR.mp ob ..) ?_
    cases h:(IK X).is k' (jY (k:Int) tk)with
    |false=>rfl
    |true=>
     have:=(IK X).inj _ _ _ h (sF _ _ _ _);subst this;rw[ik e he]at rz;exact ff rz
end
end
section
theorem Mq:Manifest.owners.lookup (String.ofList ['r', 'o', 't', 'a', 'r', 'e', 't', 'i', '_', 't', 'e', 's'].reverse)=ae Manifest.sig_set_iterator:=by kernel_rfl
theorem wI:Slot "set_iterator" "__next__" "set_iterator.__next__":=
 .of (owner:="set_iterator") (n:="__next__") (by(rewrite[GP];refine aa (GC ..) ?_);kernel_rfl) (by decide+kernel) (by decide+kernel) (by decide+kernel)
   (by first|exact .inl (by decide+kernel)|exact .inr (by decide+kernel)) (by rewrite[GH];kernel_rfl)
theorem X3:Bf table "set_iterator.__next__"=ae Builtin.«set_iterator.__next__»:=entryFor_of_tree (by kernel_rfl)
theorem VS(a:Value):argsOk "set_iterator.__next__" ⟨[a],[]⟩:=by
 unfold argsOk;refine aa (signature?_of (id:="set_iterator.__next__") (n:=['_', '_', 't', 'x', 'e', 'n', '_', '_']) (o:=['r', 'o', 't', 'a', 'r', 'e', 't', 'i', '_', 't', 'e', 's']) (by kernel_rfl) Mq ..) ?_;kernel_rfl
theorem MY:Slot "set_iterator" "__iter__" "set_iterator.__iter__":=
 .of (owner:="set_iterator") (n:="__iter__") (by(rewrite[GP];refine aa (GC ..) ?_);kernel_rfl) (by decide+kernel) (by decide+kernel) (by decide+kernel)
   (by first|exact .inl (by decide+kernel)|exact .inr (by decide+kernel)) (by rewrite[GH];kernel_rfl)
theorem X2:Bf table "set_iterator.__iter__"=ae Builtin.«dict_keyiterator.__iter__»:=entryFor_alias (id':="dict_keyiterator.__iter__") (by kernel_rfl) rfl (by decide+kernel) (by kernel_rfl)
theorem VR(a:Value):argsOk "set_iterator.__iter__" ⟨[a],[]⟩:=by
 unfold argsOk;refine aa (signature?_of (id:="set_iterator.__iter__") (n:=['_', '_', 'r', 'e', 't', 'i', '_', '_']) (o:=['r', 'o', 't', 'a', 'r', 'e', 't', 'i', '_', 't', 'e', 's']) (by kernel_rfl) Mq ..) ?_;kernel_rfl
theorem X1:Bf table "set.__iter__"=ae Builtin.«frozenset.__iter__»:=entryFor_alias (id':="frozenset.__iter__") (by kernel_rfl) rfl (by decide+kernel) (by kernel_rfl)
theorem CM{α:Type}:∀{l:List α} {i:Nat} (h:i<l.length),(l[i]::l.eraseIdx i).Perm l
 |a::l,0,h=>by rfl
 |a::l,i+1,h=>by
  simp only[List.getElem_cons_succ,List.eraseIdx_cons_succ];exact(List.Perm.swap _ _ _).trans ((CM (by simpa using h)).cons a)
theorem adZ{α:Type}(next:Nat->Nat):∀(fuel k:Nat) (left:List α) (out:Array α),fuel=left.length->(GL next fuel k left out).toList.Perm (out.toList++left):=by
 intro fuel;induction fuel with
 |zero=>
  intro k left out h;have:left=[]:=mO.mp h.symm;subst this;unfold GL;simp
 |succ fuel ih=>
  intro k left out h;unfold GL;have hl:next k % left.length<left.length:=un _ (S4 h);refine aa (bV hl ..) ?_;dsimp only;refine(ih (k+1) _ _ (by(refine aa (On ..) ?_;refine aa (if_pos hl ..) ?_);exact HN h)).trans ?_;refine aa (FB ..) ?_;rewrite[kH];refine List.Perm.append_left _ ?_;exact(CM hl)
theorem ad1{α:Type}(next:Nat->Nat)(xs:Array α):(pickOrder next xs).toList.Perm xs.toList:=by
 unfold pickOrder;exact(adZ next _ 0 _ _ (by rfl)).trans (by rfl)
section
variable{X:Fx}{A:bG}{E:Value->aV->Prop}
theorem wp_choose{src:Source}{n:Nat}{Q:Nat->aV->Prop}(hn:n≠0)(h:∀i,i<n->Q i {s with drawn:=s.drawn.bump src}):bm M A (choose src n) Q E s:=
 λU U U=>⟨hn,h _ (un _ (Nat.pos_of_ne_zero hn))⟩
theorem Jg{α:Type}:∀(n:Nat) (xs:List α) (s:aV) {Q:List α->aV->Prop},n=xs.length->(∀ys dr,ys.Perm xs->Q ys {s with drawn:=dr})->bm M A (drawOrder n xs) Q E s
 |0,xs,s,Q,hn,h=>by
  have:xs=[]:=mO.mp hn.symm;subst this;unfold drawOrder;exact aP (h [] s.drawn (.refl _))
 |n+1,[],s,Q,hn,h=>by simp at hn
 |n+1,x::xs,s,Q,hn,h=>by
  unfold drawOrder;refine ax (wp_choose (by simp) λi hi=>?_);refine aa (bV hi ..) ?_;dsimp only;refine ax (Jg n _ _ (by(refine aa (On ..) ?_;refine aa (if_pos hi ..) ?_);exact HN hn) λys dr hp=>?_);exact aP (h _ dr ((hp.cons _).trans (CM hi)))
theorem yy{Q:Bool->aV->Prop}(h:Q (X.w.params.followText "set-order") s):bm (bN X.prog X.w) A setsByText Q E s:=by
 unfold setsByText;exact ax (xJ (aP h))
def sN(h:Heap)(I d:aL)(first:Value)(i n ep:Nat):Prop:=∃o,h.get? I=ae o/\o.cls=.type "set_iterator"/\o.data=.fields #[first,.int i 0,.ref d,.int n 0,.int ep 0]
theorem sN.typeIs{I d:aL}{f:Value}{n:Nat}(x:sN s.heap I d f i n ep):s.TypeIs (.ref I) "set_iterator":=let⟨o,ho,hc,_⟩:=x;⟨o,ho,hc⟩
theorem zX{I d:aL}{first:Value}{n:Nat}{t:SetTable}{Q:Option Value->aV->Prop}
 (hit:sN s.heap I d first i n ep)(ho:s.heap.get? d=ae (dk es ep t))(T:fN t es.size)(hn:n=es.size)
 (h:bm (bN X.prog X.w) A.in1 (match first with
   |.int slot _=>do
    match<-sJ d slot.toNat i ep with
    |some (x,next)=>uD (.ref I) 0 (hZ next);uD (.ref I) 1 (hZ ((i:Int)+1));ret x
    |none=>uD (.ref I) 2 .none;raiseNew (<-newExc (.type "StopIteration") [])
   |_=>do
    let ae places<-seqItems? first|unsupported "internal:set_iterator"
    match places[i]? with
    |some (.int place _)=>
     let x<-setNextDrawn d place.toNat ep
     uD (.ref I) 1 (hZ ((i:Int)+1))
     ret x
    |some _=>unsupported "internal:set_iterator"
    |none=>uD (.ref I) 0 (hZ 0);uD (.ref I) 2 .none;raiseNew (<-newExc (.type "StopIteration") []))
   (λfin s'=>∃r,fin=.done (.ret r)/\Q (ae r) s') (λe s'=>bm (bN X.prog X.w) A (isInstance e (.type "StopIteration")) (λb wE=>b=ag/\Q ai wE) E s') s):
 bm (bN X.prog X.w) A (nU (.ref I)) Q E s:=by
 refine cb (id hit) ?_;intro o gV hc hd;unfold nU;refine ax (wpAny_attempt (Py (name:=mU "__next__") hit.typeIs wI
  (qR wI hit.typeIs X3 ?_ (VS _))))
 unfold Builtin.«set_iterator.__next__»;refine ax (m:=slotArgs "__next__" 0 _) (aP ?_);dsimp only;refine ax (wpAny_fieldsOf gV hd ?_);dsimp only;refine ax (PF ho rfl T.fits ?_);refine aa (if_neg (by refine aa ((hn) ..) ?_;simp) ..) ?_;exact bP h (λfin s' zq=>by(refine ay zq ?_;clear zq;intro r e q);exact⟨r,e,aP q⟩) λe s' x=>ax (bP x (λb wE zq=>by(refine aK zq ?_;clear zq;intro hb q);subst hb;refine aa (if_pos rfl ..) ?_;exact aP q) λU U y=>y)
theorem Nb{P:PySem.Fin->aV->Prop}{Q:Option Value->aV->Prop}(hh:A.handled=ai)(q:∀h',(∀b o,s.heap.get? b=ae o->h'.get? b=ae o)->Q ai {s with heap:=h'}):
 bm (bN X.prog X.w) A.in1 (do let e<-newExc (.type "StopIteration") [];raiseNew e) P (λe s'=>bm (bN X.prog X.w) A (isInstance e (.type "StopIteration")) (λb wE=>b=ag/\Q ai wE) E s') s:=by
 refine ax ?_;simp only[newExc,newTuple];refine ax (pk ?_ (by size_fits));refine ax (m:=firstArgMember _ _) (xK (a:=jA) (by first|rfl|(simp only[firstArgMember];rfl)) ?_);refine pk ?_ (by size_fits);refine ax (wpAny_handled ?_);refine aa ((show A.in1.handled=ai from hh) ..) ?_;refine ax (aP (wpAny_throw ?_));refine GS (T:="StopIteration") (b:=ag) ⟨_,dw _ rfl,rfl⟩ isSubtype_stop ?_;exact⟨rfl,q _ λb o e=>cv _ (cv _ e)⟩
theorem MX{I d:aL}{f:Value}{n:Nat}{Q:Value->aV->Prop}(hit:sN s.heap I d f i n ep)(h:Q (.ref I) s):bm (bN X.prog X.w) A (pf (.ref I)) Q E s:=by
 refine PD hit.typeIs MY (qR MY hit.typeIs X2 ?_ (VR _));refine(?_:bm _ _ (ret (.ref I)) _ _ s);exact aP ⟨_,rfl,"set_iterator",_,hit.typeIs,wI.lookup,h⟩
theorem NA(hh:A.handled=ai){I d:aL}{n:Nat}{t:SetTable}(dJ:d≠I)(T:fN t es.size)(hn:n=es.size)(sl:Nat->Nat)(ord:List Value)(hl:ord.length=n)
 (hx:∀(A:bG) (E:Value->aV->Prop) (i:Nat) (s:aV) (v:Value) (Q:Option (Value×Nat)->aV->Prop),s.heap.get? d=ae (dk es ep t)->ord[i]? =ae v->Q (ae (v,sl (i+1))) s->bm (bN X.prog X.w) A (sJ d (sl i) i ep) Q E s)
 (he:∀(A:bG) (E:Value->aV->Prop) (s:aV) (Q:Option (Value×Nat)->aV->Prop),s.heap.get? d=ae (dk es ep t)->Q ai s->bm (bN X.prog X.w) A (sJ d (sl n) n ep) Q E s):
 Walks X.prog X.w A I [I,d] [I] n (λi v=>ord[i]? =ae v) (λi h=>sN h I d (.int (sl i:Nat) 0) i n ep/\h.get? d=ae (dk es ep t)) where
 sub:=λb hb=>by simp at hb;simp[hb]
 frame:=λU U U st hk=>⟨let⟨o,ho,r⟩:=st.1;⟨o,hk I (by simp) o ho,r⟩,hk d (by simp) _ st.2⟩
 item:=λi s Q E hi st hQ=>by
  refine aM (⟨ord[i]'(ie hl hi),bV (ie hl hi)⟩:∃v,ord[i]? =ae v) ?_;intro v hv;refine zX st.1 st.2 T hn ?_;refine cb (st.1) ?_;intro o gV hc hd;dsimp only;refine ax (hx _ _ i s v _ st.2 hv ?_);dsimp only;refine ax (uH gV hd (by exact bR rfl) ?_)
  have km:=nP (oU (·.setIfInBounds 0 (hZ ((sl (i+1):Nat):Int)))) gV (A0 (nQ hd _));refine ax (uH (s:={s with heap:=_}) km (nQ hd _) (by exact bR rfl) ?_);refine aP ⟨_,rfl,?_⟩
  have gm:=(ja s.heap I (oU (·.setIfInBounds 0 (hZ ((sl (i+1):Nat):Int))))).trans (ja _ I (oU (·.setIfInBounds 1 (hZ ((i:Int)+1)))));refine hQ v _ s.toks hv ⟨⟨_,(nP (oU (·.setIfInBounds 1 (hZ ((i:Int)+1)))) km (A0 (nQ (nQ hd _) _))),?_,?_⟩,(gm.2 d dJ).trans st.2⟩ λb o hb e=>(gm.2 b (λh=>hb (by simp[h]))).trans e
  ·exact(Gs ..).trans ((Gs ..).trans hc)
  ·rewrite[nQ (nQ hd _)];rfl
 done:=λs Q E st hQ=>by
  refine zX st.1 st.2 T hn ?_;refine cb (st.1) ?_;intro o gV hc hd;dsimp only;refine ax (he _ _ s _ st.2 ?_);dsimp only;refine ax (uH gV hd (by exact bR rfl) ?_);refine Nb hh λh' hk=>hQ h' s.toks λb o hb e=>hk b o ?_;exact((ja s.heap I _).2 b (λh=>hb (by simp[h]))).trans e
 self:=λU U U U st hQ=>MX st.1 hQ
theorem agm(hh:A.handled=ai){I d D:aL}{n:Nat}{t:SetTable}(dJ:d≠I)(Y3:D≠I)(T:fN t es.size)(hn:n=es.size)(ps:List Nat)(hp:ps.Perm (bw n)){oD:Obj}(lN:oD.data=.seq (ps.map λi:Nat=>hZ (i:Int)).toArray 0):
 Walks X.prog X.w A I [I,d,D] [I] n (λi v=>(ps.map λp=>(es.toList.map (·.2)).getD p .none)[i]? =ae v) (λi h=>sN h I d (.ref D) i n ep/\h.get? d=ae (dk es ep t)/\h.get? D=ae oD) where
 sub:=λb hb=>by simp at hb;simp[hb]
 frame:=λU U U st hk=>⟨let⟨o,ho,r⟩:=st.1;⟨o,hk I (by simp) o ho,r⟩,hk d (by simp) _ st.2.1,hk D (by simp) _ st.2.2⟩
 item:=λi s Q E hi st hQ=>by
  have mw:ps.length=n:=by(refine aa (hp.length_eq ..) ?_;refine aa (eZ ..) ?_;rfl)
  have zm:ps[i]? =ae (ps[i]'(qZ hi mw)):=bV (qZ hi mw);generalize ps[i]'(qZ hi mw)=p at zm;have KC:p<es.size:=by refine aQ (hn ..) ?_;exact er.mp (hp.mem_iff.mp (eD zm))
  refine zX st.1 st.2.1 T hn ?_;refine cb (st.1) ?_;intro o gV hc hd;dsimp only;refine ax (xL st.2.2 lN ?_);dsimp only;have e1:(ps.map λi:Nat=>hZ (i:Int)).toArray[i]? =ae (.int (p:Int) 0):=by
   simp[zm,hZ]
  refine aa (e1 ..) ?_;dsimp only;refine ax ?_;unfold setNextDrawn;refine ax (lD st.2.1 rfl T.fits ?_);dsimp only;refine aa (if_neg (by simp) ..) ?_;have e2:es[(p:Int).toNat]? =ae es[p]:=by show es[p]? =_;simp[KC]
  refine aa (e2 ..) ?_;refine aP ?_;refine ax (uH gV hd (by exact bR rfl) ?_);refine aP ⟨_,rfl,?_⟩
  have gm:=ja s.heap I (oU (·.setIfInBounds 1 (hZ ((i:Int)+1))));refine hQ es[p].2 _ s.toks ?_ ⟨⟨_,(nP (oU (·.setIfInBounds 1 (hZ ((i:Int)+1)))) gV (A0 (nQ hd _))),(Gs ..).trans hc,?_⟩,(gm.2 d dJ).trans st.2.1,(gm.2 D Y3).trans st.2.2⟩ λb o hb e=>(gm.2 b (λh=>hb (by simp[h]))).trans e
  ·(refine aa (dB ..) ?_;refine aa (zm ..) ?_)
   simp[KC]
  ·rewrite[nQ hd];rfl
 done:=λs Q E st hQ=>by
  have mw:ps.length=n:=by(refine aa (hp.length_eq ..) ?_;refine aa (eZ ..) ?_;rfl)
  refine zX st.1 st.2.1 T hn ?_;refine cb (st.1) ?_;intro o gV hc hd;dsimp only;refine ax (xL st.2.2 lN ?_);dsimp only;have e1:(ps.map λi:Nat=>hZ (i:Int)).toArray[n]? =ai:=by simp[mw]
  refine aa (e1 ..) ?_;dsimp only;refine ax (uH gV hd (by exact bR rfl) ?_);refine ax (uH (s:={s with heap:=_}) (nP (oU (·.setIfInBounds 0 (hZ 0))) gV (A0 (nQ hd _))) (nQ hd _) (by exact bR rfl) ?_);refine Nb hh λh' hk=>hQ h' s.toks λb o hb e=>hk b o ?_;exact(((ja s.heap I (oU (·.setIfInBounds 0 (hZ 0)))).trans (ja _ I (oU (·.setIfInBounds 2 jA)))).2 b (λh=>hb (by simp[h]))).trans e
 self:=λU U U U st hQ=>MX st.1 hQ
end
end
section
section
variable{X:Fx}{A:bG}{E:Value->aV->Prop}
def PU(X:Fx)(s:aV)(d:aL)(es:Array (Int×Value))(Q:Value->aV->Prop):Prop:=
 ∀(I:aL) (fp:List aL) (ord:List Value) (St:Nat->Heap->Prop) (h':Heap) (dr:_),(∀A:bG,A.handled=ai->Walks X.prog X.w A I fp [I] es.size (λi v=>ord[i]? =ae v) St)->ord.Perm (es.toList.map (·.2))->St 0 h'->
  (∀b o,s.heap.get? b=ae o->h'.get? b=ae o)->s.heap.objs.size<=h'.objs.size->(∀b∈fp,b=d\/s.heap.objs.size<=b)->s.heap.objs.size<=I->Q (.ref I) {s with heap:=h',drawn:=dr}
theorem aeT{d:aL}{t:SetTable}{Q:Value->aV->Prop}(ho:s.heap.get? d=ae (dk es ep t))(T:iA t es.size)(hl:t.led=gX X)(h:PU X s d es Q):
 bm (bN X.prog X.w) A (pf (.ref d)) Q E s:=by
 have hT:s.TypeIs (.ref d) "set":=⟨_,ho,rfl⟩
 have De:=cq ho;refine PD hT Pa (qR Pa hT X1 ?_ (F.args_set_iter_1 _));unfold Builtin.«frozenset.__iter__»;refine ax (m:=agF "__iter__" _) (aP ?_);refine ax ?_;unfold agE;refine ax (PF ho rfl T.fits (aP ?_));refine ax ?_;unfold setDrawn;refine ax (lD ho rfl T.fits ?_);dsimp only;refine ax (yy (aP ?_));by_cases hB:(!(X.w.params.followText "set-order")&&(!t.plain&&decide (es.size>1)))=ag
 ·have agP:(!(X.w.params.followText "set-order")&&(!t.plain&&decide (es.size>1)))=ag:=hB
  refine(?_:bm _ _ (if(!(X.w.params.followText "set-order")&&(!t.plain&&decide (es.size>1)))=ag then _ else _) _ _ _);refine aa (if_pos hB ..) ?_;refine ax (Jg es.size (bw es.size) _ eZ.symm λps dr hp=>?_);simp only[newTuple];have mw:ps.length=es.size:=by(refine aa (hp.length_eq ..) ?_;refine aa (eZ ..) ?_;rfl)
  refine ax (pk ?_ (by show(AF (λi:Nat=>hZ (i:Int)) ps).toArray.size<=sizeLine;have:=T.lim;refine aa (lC ..) ?_;simp;exact S5 mw this));refine ax ?_;unfold setEpoch;have km:({s with drawn:=dr,heap:=s.heap.push {cls:=.type "tuple",data:=.seq (ps.map λi:Nat=>hZ (i:Int)).toArray} }:aV).heap.get? d=ae (dk es ep t):=cv _ ho;refine ax (lD km rfl T.fits (aP ?_));dsimp only;simp only[newFields];refine ax (pk (aP ⟨_,rfl,"set_iterator",_,⟨_,dw _ rfl,rfl⟩,wI.lookup,?_⟩) (by size_fits));refine h _ [_,d,s.heap.objs.size] _ _ _ _ (λA hh=>agm hh ?_ ?_ T.tofN rfl ps hp (oD:={cls:=.type "tuple",data:=.seq (ps.map λi:Nat=>hZ (i:Int)).toArray}) rfl) ?_ ⟨⟨_,dw _ rfl,rfl,rfl⟩,cv _ km,cv _ (dw _ rfl)⟩ ?_ ?_ ?_ ?_
  ·rewrite[dI];exact dN (su De)
  ·rewrite[dI];exact dN (xe _)
  ·have e:(bw es.size).map (λp=>(es.toList.map (·.2)).getD p .none)=es.toList.map (·.2):=by
    apply sh;intro i;refine aa (dB ..) ?_;by_cases hi:i<es.size
    ·refine aa (xb hi ..) ?_
     simp[hi]
    ·(refine aa (iM (by simpa using hi) ..) ?_;refine aa (iM (by simpa using hi) ..) ?_);rfl
   exact(hp.map _).trans (by(refine aa (e ..) ?_;rfl))
  ·intro b o e;exact cv _ (cv _ e)
  ·(rewrite[dI];rewrite[dI]);exact S6
  ·intro b hb
   simp only[cH,kJ,or_false]at hb;rcases hb with rfl|rfl|rfl
   ·right;rewrite[dI];exact gQ
   ·left;rfl
   ·right;exact bj _
  ·rewrite[dI];exact gQ
 ·refine(?_:bm _ _ (if(!(X.w.params.followText "set-order")&&(!t.plain&&decide (es.size>1)))=ag then _ else _) _ _ _)
  refine aa (if_neg hB ..) ?_;refine ax (aP ?_);refine ax ?_;unfold setEpoch;refine ax (lD ho rfl T.fits (aP ?_));dsimp only;simp only[newFields];refine ax (pk (aP ⟨_,rfl,"set_iterator",_,⟨_,dw _ rfl,rfl⟩,wI.lookup,?_⟩) (by size_fits));cases vB:X.w.params.followText "set-order"
  ·
   have bv:(!t.plain&&decide (es.size>1))=aq:=by
    rw[vB]at hB;simpa using hB
   have vF:t.led=ag:=by refine aa (hl ..) ?_;unfold gX;refine aa (vB ..) ?_;rfl
   have wu:∀(A:bG) (E:Value->aV->Prop) (sl i:Nat) (s:aV) (Q:Option (Value×Nat)->aV->Prop),s.heap.get? d=ae (dk es ep t)->
    Q (match es[jX t.place sl]?,t.place[jX t.place sl]? with|some (_,x),ae j=>ae (x,j+1)|_,_=>ai) s->bm (bN X.prog X.w) A (sJ d sl i ep) Q E s:=by
    intro A E sl i s Q ho hq;unfold sJ;refine ax (lD ho rfl T.fits ?_);dsimp only;refine ax (yy ?_);refine aa (vB ..) ?_;simp only[dF,↓dy,if_false];refine(?_:bm _ _ (if(!t.plain&&decide (es.size>1))=ag then _ else _) _ _ _);refine aa (bv ..) ?_;simp only[dF,↓dy,if_false];refine ax ?_;refine(?_:bm _ _ (if(!t.led&&!es.isEmpty)=ag then unsupported _ else pure ()) _ _ _);refine aa (vF ..) ?_;simp only[nJ,wV,dF,↓dy,if_false];exact aP (aP hq)
   have Ix:∀i,i<=es.size->jX t.place (if i=0 then 0 else t.place.getD (i - 1) 0+1)=i:=by
    intro i hi;cases i with
    |zero=>refine aa (if_pos rfl ..) ?_;exact Wb T.uT
    |succ i=>
     refine aa (if_neg (HO) ..) ?_;have bo:i<t.place.size:=by refine aa (T.sz ..) ?_;exact Im hi
     refine Wd T.uT (i:=i) ?_;simp[kF,bo]
   refine h _ [_,d] (es.toList.map (·.2)) _ _ s.drawn (λA hh=>NA hh ?_ T.tofN rfl (λi=>if i=0 then 0 else t.place.getD (i - 1) 0+1) (es.toList.map (·.2)) (by simp) (λA E i s v Q ho hv hq=>?_) (λA E s Q ho hq=>?_)) (.refl _) ⟨⟨_,dw _ rfl,rfl,rfl⟩,cv _ ho⟩ ?_ ?_ ?_ ?_
   ·exact dN De
   ·have hi:i<es.size:=by
     simpa using((bJ.mp hv).1)
    refine wu A E _ i s Q ho ?_;refine aa (Ix i (xU hi) ..) ?_;have h1:es[i]? =ae es[i]:=by first|exact FA hi|exact bV hi
    have h2:t.place[i]? =ae (t.place.getD i 0):=by
     have:i<t.place.size:=by refine aa (T.sz ..) ?_;exact hi
     simp[kF,this]
    refine aa (h1 ..) ?_;refine aa (h2 ..) ?_;have h3:es[i].2=v:=by
     rw[dB]at hv;simp[hi]at hv;exact hv
    dsimp only;refine aa (h3 ..) ?_;rw[if_neg (HO)]at hq;exact hq
   ·refine wu A E _ _ s Q ho ?_
    refine aa (Ix _ (bj _) ..) ?_;have h1:es[es.size]? =ai:=by simp
    refine aa (h1 ..) ?_;exact hq
   ·intro b o e;exact cv _ e
   ·rewrite[dI];exact gQ
   ·intro b hb
    simp only[cH,kJ,or_false]at hb;rcases hb with rfl|rfl
    ·right;exact bj _
    ·left;rfl
   ·exact bj _
  ·
   have wu:∀(A:bG) (E:Value->aV->Prop) (i:Nat) (s:aV) (Q:Option (Value×Nat)->aV->Prop),s.heap.get? d=ae (dk es ep t)->
    Q (((pickOrder (X.w.params.setOrder d ep) es)[i]?).map λe=>(e.2,0)) s->bm (bN X.prog X.w) A (sJ d 0 i ep) Q E s:=by
    intro A E i s Q ho hq;unfold sJ;refine ax (lD ho rfl T.fits ?_);dsimp only;refine ax (yy ?_);refine aa (vB ..) ?_;simp only[↓fw,if_true];refine aa (if_neg (by simp) ..) ?_;refine ax ?_;unfold setWalk;refine ax (lD ho rfl T.fits ?_);dsimp only;refine ax (yy ?_);refine aa (vB ..) ?_;simp only[↓fw,if_true];exact ax (xJ (aP (aP hq)))
   have gh:((pickOrder (X.w.params.setOrder d ep) es).toList.map (·.2)).Perm (es.toList.map (·.2)):=(ad1 _ es).map _;have hlen:((pickOrder (X.w.params.setOrder d ep) es).toList.map (·.2)).length=es.size:=by refine aa (gh.length_eq ..) ?_;simp
   refine h _ [_,d] ((pickOrder (X.w.params.setOrder d ep) es).toList.map (·.2)) _ _ s.drawn (λA hh=>NA hh ?_ T.tofN rfl (λi=>0) ((pickOrder (X.w.params.setOrder d ep) es).toList.map (·.2)) hlen (λA E i s v Q ho hv hq=>?_) (λA E s Q ho hq=>?_)) gh ⟨⟨_,dw _ rfl,rfl,rfl⟩,cv _ ho⟩ ?_ ?_ ?_ ?_
   ·exact dN De
   ·refine wu A E i s Q ho ?_
    rw[dB,i9]at hv;refine ay hv ?_;clear hv;rintro e he rfl;rw[oO]at he;refine aa (he ..) ?_;exact hq
   ·refine wu A E _ s Q ho ?_
    have:(pickOrder (X.w.params.setOrder d ep) es)[es.size]? =ai:=by
     refine aQ (oO ..) ?_;rewrite[iM];rfl;rw[bp]at hlen;exact S8 hlen
    refine aa (this ..) ?_;exact hq
   ·intro b o e;exact cv _ e
   ·rewrite[dI];exact gQ
   ·intro b hb
    simp only[cH,kJ,or_false]at hb;rcases hb with rfl|rfl
    ·right;exact bj _
    ·left;rfl
   ·exact bj _
end
end
section
section
variable{X:Fx}{A:bG}{E:Value->aV->Prop}
theorem Z3{r:aL}{Q:Bool->aV->Prop}(hT:s.TypeIs (.ref r) "set")(h:Q aq s):bm (bN X.prog X.w) A (OY (.ref r)) Q E s:=by
 unfold OY;refine ax (Bs hT PySem.F.slot_set_len.lookup ?_);generalize hid:("set.__len__":String)=abk
 wp_delta
 refine aa ((show splitId abk=ae ("set","__len__")from by subst hid;decide+kernel) ..) ?_;subst hid;refine ax (GS (T:="set") (b:=ag) hT (by rewrite[GH];kernel_rfl) ?_);refine GT (λfH=>absurd fH (by decide)) (λU=>?_);refine GT (λU=>?_) (λfH=>absurd (by decide+kernel) fH);refine ax (xN hT ?_);exact aP h
theorem aeS{d:aL}{t:SetTable}(ho:s.heap.get? d=ae (dk es ep t))(T:iA t es.size)(hl:t.led=gX X)(hh:A.handled=ai)(S:aL)(JZ:S≠d)(res:Value)(c₀:Nat)(hS:s.heap.get? S=ae {cls:=.type "list",data:=.seq #[] c₀})
 (hR:∀h' tk dr fe c',(∀b o,b≠S->s.heap.get? b=ae o->h'.get? b=ae o)->h'.get? S=ae {cls:=.type "list",dict:=ai,data:=.seq fe c',slots:= #[]}->fe.toList.Perm (es.toList.map (·.2))->R (.ok (.ret res)) {s with heap:=h',drawn:=dr,toks:=tk}):
 bm (bN X.prog X.w) A.in1 (Gh (.ref S) (.ref d) res)
  (λfin s'=>match fin with|.done f=>R (.ok f) s'|.again c'=>c'.quiet=ag/\kM (bN X.prog X.w) A c' R s') (λe s'=>R (.error e) s') s:=by
 have J1:=cq hS;unfold Gh;have hT:s.TypeIs (.ref d) "set":=⟨_,ho,rfl⟩
 refine ax (xN (T:="set") hT ?_);have h1:OZ (.ref S) (.ref d)=aq:=by simp[OZ,JZ]
 have n1:(nS "set"==nS "list")=aq:=by decide
 have n2:(nS "set"==nS "tuple")=aq:=by decide
 simp only[h1,n1,n2,FG,dF,↓dy,if_false];refine ax (aeT ho T hl λI fp ord St mi dr hW gh eU cV bW ZS hI=>?_)
 have W:=hW A.in1 hh;have rp:S∉fp:=λhm=>by
  rcases ZS S hm with e|e
  ·exact JZ e
  ·exact absurd J1 (l9.mpr e)
 have agT:S≠I:=λe=>absurd J1 (l9.mpr (e▸hI))
 have C4:=cV _ _ hS;have Y6:∀b o,s.heap.get? b=ae o->b≠I:=λb o e h=>absurd (cq e) (l9.mpr (h▸hI));have key:∀(h:Heap) (c₁ tk:Nat),St 0 h->(∀b o,b≠S->s.heap.get? b=ae o->h.get? b=ae o)->
  h.get? S=ae {cls:=.type "list",data:=.seq #[] c₁}->kM (bN X.prog X.w) A (.builtin "list.extend.loop" ⟨[.ref S,.ref I,res],[]⟩) R {s with heap:=h,drawn:=dr,toks:=tk}:=by
  intro h c₁ tk eU hk hS₁;refine codeAny_extend_loopS W.toS (by have:=T.lim;refine aa (lC ..) ?_;exact S9 this) S rp res es.size 0 _ #[] c₁ rfl (cJ _) eU hS₁ (ItemsOf.nil _) λs' fe c' hm n8 jg=>?_;refine aa (Moved.eq_with hm ..) ?_;refine hR s'.heap s'.toks dr fe c' (λb o hb e=>hm.heap b o (λiF=>?_) (hk b o hb e)) n8 ?_
  ·rcases cH.mp iF with e'|iF
   ·exact hb e'
   ·exact Y6 b o e (eR.mp iF)
  ·have hlen:ord.length=es.size:=by refine aa (gh.length_eq ..) ?_;simp
   have:fe.toList=ord:=by
    apply sh;intro j;refine aa (oO ..) ?_;by_cases hj:j<fe.size
    ·have e1:fe[j]? =ae fe[j]:=by first|exact bV hj|exact FA hj
     refine aa (e1 ..) ?_;refine aa (jg.2 j _ e1 ..) ?_;rfl
    ·refine aa (iM (by have:=jg.1;exact Ta hlen hj this) ..) ?_
     simp at hj⊢;exact hj
   refine aa (this ..) ?_;exact gh
 refine ax (cU (Z3 (s:={s with heap:=mi,drawn:=dr}) ⟨_,(cV _ _ ho),rfl⟩ ?_));refine GT (λU=>?_) (λU=>aP ⟨sI O2 _,key _ c₀ _ eU (λb o U e=>cV b o e) C4⟩);refine ax (qS ?_);refine ax ?_;refine(?_:bm _ _ (updateSeq S (·.push .none)>>= λU=>updateSeq S (·.pop)) _ _ _);refine ax (wpAny_updateSeq (s:={s with heap:=mi,drawn:=dr}) C4 rfl ?_)
 have hS₂:=nP (lB (·.push jA)) C4 rfl;refine wpAny_updateSeq (hz:=by seq_fits) hS₂ rfl ?_;refine aP ⟨sI O2 _,key _ _ _ ?_ (λb o hb e=>?_) (nP (lB (·.pop)) hS₂ rfl)⟩
 ·refine W.frame 0 _ _ eU λb hb o e=>?_
  have J6:b≠S:=λh=>rp (h▸hb);exact(xr _ _ (jz J6)).trans ((xr _ _ (jz J6)).trans e)
 ·exact(xr _ _ (jz hb)).trans ((xr _ _ (jz hb)).trans (cV b o e))
theorem aeQ{d:aL}{t:SetTable}{R:List Value->aV->Prop}(ho:s.heap.get? d=ae (dk es ep t))(T:iA t es.size)(hl:t.led=gX X)(hh:A.handled=ai)
 (h:∀(h':Heap) (tk:Nat) dr (vs:List Value),jb s.heap h'->vs.Perm (es.toList.map (·.2))->R vs {s with heap:=h',drawn:=dr,toks:=tk}):bm (bN X.prog X.w) A (collect (.ref d)) R E s:=by
 unfold collect;refine ax (wpAny_runValue (qP entry_proto_collect' ?_));refine aa (sB PySem.F.plain_proto_collect _ ..) ?_;refine(?_:bm _ A.in1 (Bk []>>= λl=>again (.builtin "list.__iadd__" ⟨[l,.ref d],[]⟩)) _ _ s);refine ax (pk ?_);refine aP ⟨sI O3 _,qP entry_list_iadd' ?_⟩;refine aa (sB O3 _ ..) ?_;refine(?_:bm _ A.in1 (Gh (.ref s.heap.objs.size) (.ref d) (.ref s.heap.objs.size)) _ _ _)
 have key:=aeS (A:=A) (s:={s with heap:=s.heap.push {cls:=.type "list",data:=.seq ([]:List Value).toArray} })
  (R:=λ(q:Result) (s':aV)=>∃(h':Heap) (tk:Nat) (dr:_) (fe:Array Value) (c':Nat),q=.ok (.ret (.ref s.heap.objs.size))/\s'={s with heap:=h',drawn:=dr,toks:=tk}/\
    jb s.heap h'/\h'.get? s.heap.objs.size=ae {cls:=.type "list",dict:=ai,data:=.seq fe c',slots:= #[]}/\fe.toList.Perm (es.toList.map (·.2)))
  (cv _ ho) T hl hh s.heap.objs.size (xi (cq ho)) (.ref s.heap.objs.size) 0 (dw _ rfl)
  (λh' tk dr fe c' hk n8 jg=>⟨h',tk,dr,fe,c',rfl,rfl,λb o e=>hk b o (dN (cq e)) (cv _ e),n8,jg⟩)
 refine bP key (λfin s' x=>?_) λe s' x=>?_
 ·cases fin with
  |done f=>
   refine agx x ?_;clear x;rintro h' tk dr fe c' e rfl aB;refine eB aB ?_;clear aB;intro hk n8 jg
   obtain rfl:=Except.ok.inj e;refine(?_:bm _ A (load s.heap.objs.size>>=_) _ _ _);refine ax (GU n8 ?_);exact aP (h h' tk dr _ hk jg)
  |again c₁=>
   refine⟨x.1,pc x.2 λq s₂ y=>?_⟩;refine Av y ?_;clear y;rintro h' tk dr fe c' rfl aB;refine aK aB ?_;clear aB;rintro rfl dv;refine eB dv ?_;clear dv;intro hk n8 jg;refine(?_:bm _ A (load s.heap.objs.size>>=_) _ _ _);refine ax (GU n8 ?_);exact aP (h h' tk dr _ hk jg)
 ·(refine Av x ?_;clear x;intro aj aB aS dv cO e' l5)
  exact jw (noConfusion_of_Nat Except.ctorIdx e')
theorem M6{d:aL}{t:SetTable}{Q:Value->aV->Prop}(ho:s.heap.get? d=ae (dk es ep t))(T:iA t es.size)(hl:t.led=gX X)(hh:A.handled=ai)
 (h:∀(D:aL) (h':Heap) (tk:Nat) dr (vs:List Value),jb s.heap h'->s.heap.objs.size<=D->h'.get? D=ae (iQ "list" vs.toArray 0)->vs.Perm (es.toList.map (·.2))->
   bm (bN X.prog X.w) A.in1 (call (.builtin "list.sort") [.ref D]) (λU s'=>Q (.ref D) s') E {s with heap:=h',drawn:=dr,toks:=tk}):
 bm (bN X.prog X.w) A (call (.builtin "sorted") [.ref d]) Q E s:=by
 refine O1 kind_sorted plain_sorted entry_sorted (args_sorted1 _) ?_;unfold Builtin.«sorted»;refine ax (m:=checkCount "sorted" 1 1 _) (aP ?_);refine ax (jt (aeQ (A:=A.in1) ho T hl hh λh' tk dr vs hk hp bW=>?_));have hlen:vs.length<=16:=by refine aa (hp.length_eq ..) ?_;have:=T.lim;simp;exact BS this
 refine ax (Bq ?_ (by refine aa (lC ..) ?_;exact Tc hlen));refine ax (cU (bP (h h'.objs.size (h'.push {cls:=.type "list",data:=.seq vs.toArray}) tk dr vs (λb o e=>cv _ (hk b o e)) bW (dw _ rfl) hp) (λU s' x=>?_) λU U e=>e));exact aP ⟨_,rfl,x⟩
end
end
section
section
variable{X:Fx}
noncomputable def natOf:Value->Nat
 |.int i _=>i.toNat
 |_=>0
theorem abB:∀{vs:List Value},(∀v∈vs,∃(k:Nat) (t:iw),v=.int (k:Int) t)->qG vs ((vs.map natOf).map i7):=by
 intro vs;induction vs with
 |nil=>
  intro _;exact .nil
 |cons v vs ih=>
  intro h;refine eC (h v ca) ?_;rintro k t rfl;exact .cons (k:Int) t (ih λu hu=>h u (cI _ hu))
theorem afg{n:Nat}{p:PV}{xs:List Nat}(hp:listOf H p=ae (nats xs))(hx:∀x∈xs,x<16)
 (q:∀ys:List Nat,ys.Nodup->(∀y,y∈ys↔y∈xs)->Q (.lst (nats ys)) H):qT X n p H Q:=by
 intro A β s v ra r hv;rcases(iH r hv hp)with⟨a,vs,m,rfl,ho,rv⟩
 have bW:vs.toArray.size=xs.length:=by(refine aa (fu ..) ?_;refine aa (rv.length ..) ?_);exact bp _
 have kj:∀(i:Nat) (v:Value),vs.toArray[i]? =ae v->∃k t,xs[i]? =ae k/\v=.int (k:Int) t:=λi v hv=>by
  have hi:i<xs.length:=by refine aQ (bW ..) ?_;exact(ua.mp hv).1
  refine ay (rv.get (i:=i) (p:=nat xs[i]) (by unfold nats;(refine aa (dB ..) ?_;refine aa (bV hi ..) ?_);rfl)) ?_;intro v' e1 e2;rw[AE]at hv;rw[hv]at e1;injection e1 with e1;subst e1;refine aM e2 ?_;clear e2;intro t e;exact⟨xs[i],t,bV hi,e⟩
 refine jt (IR ra.hd (by have:=ra.units;exact HQ this) (im ho) (Vy hx bW kj) HoldsI.zero λh' tk es ep t g T hl C hold=>?_);intro rD;have Dr:∀v∈es.toList.map (·.2),∃(k:Nat) (t:iw),v=.int (k:Int) t:=λv hv=>by
  refine ay (bH.mp hv) ?_;rintro e he rfl;refine ay (C.src e he) ?_;intro j aj hj;refine cZ (kj j _ hj) ?_;intro k t aj e';exact⟨k,t,e'⟩
 refine jt (M6 (s:={s with heap:=h',toks:=tk}) g T hl ra.hd λD h2 nF dr ws zl hD lN gh=>?_);have DC:∀v∈ws,∃(k:Nat) (t:iw),v=.int (k:Int) t:=λv hv=>Dr v (gh.mem_iff.mp hv);have mx:ws.length<=16:=by refine aa (gh.length_eq ..) ?_;have:=T.lim;simp;exact BS this
 refine qR Ge ⟨_,lN,rfl⟩ Gb (list_sort_tree lN (abB DC) (x5 mx) λout ip a1 a2 a3=>⟨_,rfl,?_⟩) (Ga _);intro hsz2;refine aM (Gf (vs:=ws) (out:=out) lN) ?_;intro ec tt;have hL:aI=1000000:=rfl;have en:ip=(ip.map i8).map i7:=by
  have aZ:∀z∈ip,∃k:Nat,z=i7 k:=λz hz=>by
   refine ay (bH.mp (a2.mem_iff.mp hz)) ?_;rintro k aj rfl;exact⟨k,rfl⟩
  refine aa (cB ..) ?_
  conv=>lhs;rw[<-qB ip]
  refine iO λz hz=>?_;obtain⟨k,rfl⟩:=aZ z hz;rfl
 have no:(ip.map i8).Perm (ws.map natOf):=by
  have:=a2.map i8;rw[cB]at this;have e:(i8∘i7)=id:=by funext k;rfl
  rw[e,qB]at this;exact this
 have KT:(ip.map i8).Perm (es.toList.map λe=>natOf e.2):=by
  have:=no.trans (gh.map natOf);rwa [cB]at this
 have bv:(ip.map i8).Nodup:=by
  rw[KT.nodup_iff];rw[List.nodup_iff_pairwise_ne,OA];refine C.ap.imp_of_mem λ{e e'} he ob Zh heq=>?_;obtain⟨k,t,hk⟩:=Dr e.2 (bH.mpr ⟨e,he,rfl⟩);obtain⟨k',t',dQ⟩:=Dr e'.2 (bH.mpr ⟨e',ob,rfl⟩);rw[hk,dQ]at heq;have ii:k=k':=heq;subst ii;have h1:(IK X).is (k:Int) e.2=ag:=by rw[hk];exact sF _ _ _ _
  have h2:=Zh _ h1;rw[dQ]at h2;rw[(sF _ _ _ _)]at h2;exact ft h2
 have iF:∀y,y∈ip.map i8↔y∈xs:=λy=>by
  rw[KT.mem_iff,bH];constructor
  ·rintro⟨e,he,rfl⟩
   obtain⟨j,_,hj⟩:=C.src e he;obtain⟨k,t,hk,e'⟩:=kj j _ hj;rw[e'];exact eD hk
  ·intro hy
   obtain⟨j,hj⟩:=nM hy;have lK:j<vs.toArray.size:=by rw[bW];exact(bJ.mp hj).1
   obtain⟨e,he,j',h3,h4⟩:=C.all j lK;obtain⟨k,t,hk,e'⟩:=kj j' _ h3;refine⟨e,he,?_⟩;rw[e'];rw[hk,hj]at h4;injection h4
 have hz:ip.length<=aI:=by
  have:=a2.length_eq;rw[bp,bp]at this;exact Td mx hL this
 have X6:ip.map PV.int=nats (ip.map i8):=by
  conv=>lhs;rw[en]
  unfold nats;rw[cB];rfl
 rw[ym (out:=out)]at tt;have hq:eb ai (ip.map PV.int) H Q:=⟨by rw[bp];exact hz,by rw[X6];exact(q _ bv iF)⟩
 refine bn.pW (s:={s with drawn:=dr}) (vs:=out.toList) (⟨r.top,r.os,r.gens,r.inj,r.off,r.lo,r.obj,r.gU,r.nz,r.lU⟩) (Ac a1) (dC rD hD) (λb o h=>?_) (dC rD hsz2) tt hq;have hb:b<D:=iP (cq h) (dC rD hD);rw[Gg (dN hb) (gO hb (cq lN))];exact zl b o (hold b o h)
end
end
section
noncomputable def dD{α:Type}(N:Nat)(P:α->Prop):KasT α->Prop
 |.ret a=>P a
 |.ask i j k=>i<N/\j<N/\∀b,dD N P (k b)
theorem dD.bind{α β:Type}{P:β->Prop}{R:α->Prop}{f:α->KasT β}(hf:∀a,R a->dD N P (f a)):∀{t:KasT α},dD N R t->dD N P (t.bind f)
 |.ret a,h=>hf a h
 |.ask i j k,h=>⟨h.1,h.2.1,λb=>dD.bind hf (h.2.2 b)⟩
theorem dD.ite{α:Type}{P:α->Prop}{c:Prop}[Decidable c]{a b:KasT α}(h1:dD N P a)(h2:dD N P b):dD N P (if c then a else b):=by split<;>assumption
def fc(N:Nat)(p:Array Nat):Prop:=p.toList.Perm (bw N)
section
variable(hN:0<N)
theorem fc.rev{p:Array Nat}(h:fc N p)(i j:Nat):fc N (kas_rev p i j):=(NS.mp (mirror_perm p i j _)).trans h
theorem fc.WM{p:Array Nat}(h:fc N p)(i j:Nat):fc N (bubble p i j):=(NS.mp (bubble_perm p i j)).trans h
include hN
theorem fc.at{p:Array Nat}(h:fc N p)(i:Nat):p.getD i 0<N:=by
 by_cases hi:i<p.size
 ·have e:p.getD i 0=p[i]:=by(first|exact Cd hi|exact getD_get hi)
  refine aa (e ..) ?_;exact er.mp (h.mem_iff.mp (by simp))
 ·have e:p.getD i 0=0:=by simp[kF,hi]
  refine aa (e ..) ?_;exact hN
theorem Iv{p:Array Nat}(h:fc N p):∀(f n:Nat),dD N (λU=>True) (kas_asc p f n):=by
 intro f;induction f with
 |zero=>
  intro n;exact trivial
 |succ f ih=>
  intro n;exact⟨h.at hN _,h.at hN _,λb=>dD.ite trivial (ih (n+1))⟩
theorem Xz:∀(f:Nat) {p:Array Nat} (n q:Nat),fc N p->dD N (λr=>fc N r.1) (kas_desc f p n q):=by
 intro f;induction f with
 |zero=>
  intro p n q h;exact h
 |succ f ih=>
  intro p n q h;exact⟨h.at hN _,h.at hN _,λb=>dD.ite (dD.ite (ih _ _ (h.rev _ _)) (ih _ _ h)) ⟨h.at hN _,h.at hN _,λd=>dD.ite h (ih _ _ h)⟩⟩
theorem No{n:Nat}{p:Array Nat}(h:fc N p):dD N (λr=>fc N r.2) (kas_tail3 n EU p):=by
 unfold kas_tail3;refine dD.bind (R:=λU=>True) (λm U=>?_) (Iv hN (h.rev _ _) _ _);exact h.rev 0 n
theorem I7{n:Nat}{p:Array Nat}(h:fc N p):dD N (λr=>fc N r.2) (kas_descPart n EU p):=by
 unfold kas_descPart;refine dD.bind (R:=λr=>fc N r.1) (λr hr=>?_) (Xz hN _ _ _ h);exact dD.ite (No hN (hr.rev _ _)) (No hN hr)
theorem Xn{p:Array Nat}(h:fc N p):dD N (λr=>fc N r.2) (kas_count EU p):=by
 unfold kas_count;refine dD.bind (R:=λU=>True) (λn U=>?_) (Iv hN h _ _);have hr:dD N (λr:Nat×Array Nat=>fc N r.2) (.ret (n,p)):=h;refine dD.ite hr (dD.ite ⟨h.at hN _,h.at hN _,λb=>dD.ite hr (I7 hN (h.rev _ _))⟩ (I7 hN h))
theorem ad2{p:Array Nat}(h:fc N p):∀(f l r:Nat),dD N (λU=>True) (kas_place p k f l r):=by
 intro f;induction f with
 |zero=>
  intro l r;exact trivial
 |succ f ih=>
  intro l r;exact dD.ite trivial ⟨h.at hN _,h.at hN _,λb=>dD.ite (ih _ _) (ih _ _)⟩
theorem WB:∀(f:Nat) {p:Array Nat} (k:Nat),fc N p->dD N (fc N) (kas_bin f p k):=by
 intro f;induction f with
 |zero=>
  intro p k h;exact h
 |succ f ih=>
  intro p k h;unfold kas_bin;exact dD.bind (R:=λU=>True) (λl U=>ih _ (h.WM _ _)) (ad2 hN h _ _ _)
theorem afd:dD N (fc N) (kas_sort N):=by
 unfold kas_sort;refine dD.bind (R:=λr=>fc N r.2) (λr hr=>?_) (Xn hN (p:=bT (bw N)) (.refl _));exact dD.ite (WB hN _ _ hr) hr
end
section
variable{X:Fx}{A:bG}{E:Value->aV->Prop}
theorem Iw{α:Type}{P:α->Prop}{cmp:Nat->Nat->(Bool->aV->Prop)->aV->Prop}{G:α->aV->Prop}{J:aV->Prop}(hc:∀(i j:Nat) (C:Bool->aV->Prop) (s:aV),i<N->j<N->J s->(∀b s',J s'->C b s')->cmp i j C s)(hG:∀(a:α) (s:aV),P a->J s->G a s):
 ∀(t:KasT α) (s:aV),dD N P t->J s->t.kasWp cmp G s
 |.ret a,s,h,j=>hG a s h j
 |.ask i j k,s,h,hj=>hc i j _ s h.1 h.2.1 hj λb s' Z4=>Iw hc hG (k b) s' (h.2.2 b) Z4
def sM(ks:List Atom):Prop:=∃(x:Str) (r:List Int),ks=Atom.x x::r.map Atom.i
theorem aco{Q:Bool->aV->Prop}(fin b:Bool)(q:∀c tk,Q c {s with toks:=tk}):∀{us vs:List Int} {xs ys:List Value} (i:Nat),AZ (AK X) (us.map Atom.i) xs->AZ (AK X) (vs.map Atom.i) ys->KatLex X.prog X.w A b fin Q (xs.zip ys) (i+1) s:=by
 intro us;induction us with
 |nil=>
  intro vs xs ys i hx hy;cases hx
  refine aa (List.zip_nil_left ..) ?_;exact kat_nil (q _ s.toks)
 |cons u us ih=>
  intro vs xs ys i hx hy;cases vs with
  |nil=>
   cases hy
   refine aa (OC ..) ?_;exact kat_nil (q _ s.toks)
  |cons v vs=>
   cases hx with
   | @cons _ x _ xs h1 hx=>
     cases hy with
     | @cons _ y _ ys h2 hy=>
       refine aa (AL ..) ?_;refine kat_cons ((AK X).eqBool h1 h2 ?_);refine kat_go (λU=>kat_yes (ih (i+1) hx hy)) λU=>kat_no ?_;have e:(b&&i+1==0)=aq:=by simp
       refine aa (e ..) ?_;refine aM (oX h1) ?_;rintro t rfl;refine aM (oX h2) ?_;rintro t' rfl;refine kat_one _ _ ?_;exact OV (q _ _)
theorem acP{a c:aL}{ls:List Atom}{Q:Bool->aV->Prop}(h1:sM ks)(h2:sM ls)(hk:gw (AK X) s.heap ks a)(hl:gw (AK X) s.heap ls c)(q:∀c tk,Q c {s with toks:=tk}):bm (bN X.prog X.w) A (keyLt' (tuples' ag) (.ref a) (.ref c)) Q E s:=by
 refine eC h1 ?_;clear h1;rintro x us rfl;refine eC h2 ?_;clear h2;rintro y vs rfl;refine se hk ?_;clear hk;intro oa xs na aas aj ZJ Z1;refine se hl ?_;clear hl;intro oc ys nc aat aj ZK Z2;refine kat_lt aas ZJ aat ZK ?_;generalize decide (xs.size<ys.size)=fin;generalize xs.toList=xl at*;generalize ys.toList=yl at*;cases Z1 with
 | @cons _ v _ qu g1 hx=>
   cases Z2 with
   | @cons _ w _ d7 g2 hy=>
     refine aa (AL ..) ?_;refine kat_cons ((AK X).eqBool g1 g2 ?_);refine kat_go (λU=>kat_yes (aco fin ag q 0 hx hy)) λU=>kat_no ?_;refine aM (oY g1) ?_;rintro t rfl;refine aM (oY g2) ?_;rintro t' rfl;exact oneLt_str (q _ s.toks)
end
end
section
set_option maxHeartbeats 3200000
section
variable{X:Fx}{A:bG}{E:Value->aV->Prop}
theorem range_getD{d:Value}:(bw vs.length).map (λi=>vs.getD i d)=vs:=by
 apply sh;intro i;refine aa (dB ..) ?_;by_cases hi:i<vs.length
 ·refine aa (xb hi ..) ?_;simp[hi]
 ·(refine aa (iM (by simpa using hi) ..) ?_;refine aa (iM (by simpa using hi) ..) ?_);rfl
theorem abY:∀{vs:List Value},(∀v∈vs,∃ks b,v=.ref b/\sM ks/\gw (AK X) h ks b)->∃fs:List Value,fs.length=vs.length/\KatTups h vs fs/\∀f∈fs,∃x t,f=.str x t:=by
 intro vs;induction vs with
 |nil=>
  intro _;exact⟨[],rfl,trivial,λf hf=>by cases hf⟩
 |cons v vs ih=>
  intro hv;refine cZ (hv v ca) ?_;rintro ks b rfl aB;refine aK aB ?_;clear aB;intro aS dv;refine eC aS ?_;clear aS;rintro x r rfl;refine se dv ?_;clear dv;intro o it n ho hc hd hi;refine cb (ih λu hu=>hv u (cI _ hu)) ?_;intro fs h1 h2 h3
  (refine cZ (by
    generalize it.toList=l at hi;cases hi with
    |cons g _=>exact⟨_,_,rfl,g⟩:∃w ws,it.toList=w::ws/\(Atom.x x).is w=ag) ?_;intro w ws e hw)
  refine⟨w::fs,by simp[h1],KatTups.cons ho hc hd ?_ h2,λf hf=>?_⟩
  ·(refine aQ (oO ..) ?_;refine aa (e ..) ?_);rfl
  ·rcases cH.mp hf with rfl|hf
   ·(refine aM (oY hw) ?_;intro t e);exact⟨x,t,e⟩
   ·exact h3 f hf
theorem acs{a:aL}{n:Nat}{P:PySem.Fin->aV->Prop}(ho:s.heap.get? a=ae (iQ "list" vs.toArray n))(CY:vs.length<64)(hv:∀v∈vs,∃ks b,v=.ref b/\sM ks/\gw (AK X) s.heap ks b)
 (h:∀(out:List Value) tk,out.Perm vs->P (.done (.ret .none)) {s with heap:=sortedHeap s.heap a vs out.toArray,toks:=tk}):
 bm (bN X.prog X.w) A (Builtin.«list.sort» ⟨[.ref a],[]⟩) P E s:=by
 rewrite[list_sort_plain];have ha:a<s.heap.objs.size:=cq ho;refine ax (listItems_at ho rfl ?_);refine ax (Gc ho rfl ?_);refine aM (⟨_,get?_update_seq ho (λU=> #[])⟩:∃e1,(s.heap.update a (lB λU=> #[])).get? a=ae (iQ "list" #[] e1)) ?_;intro e1 km;refine ax (Gd km rfl ?_);refine ax (wpAny_newTuple ?_);refine ax (Bq ?_);refine cU ?_;have zj:(((s.heap.update a (lB λU=> #[])).push (iQ "tuple" vs.toArray 0)).push (iQ "list" #[] 0)).get? a=ae (iQ "list" #[] e1):=by
  refine aa (Pb _ _ _ (by(rewrite[size_push'];rewrite[AY]);exact dN (su ha)) ..) ?_;refine aa (Pb _ _ _ (by rewrite[AY];exact dN ha) ..) ?_;exact km
 have DA:∀v∈vs,∃ks b,v=.ref b/\sM ks/\gw (AK X) (((s.heap.update a (lB λU=> #[])).push (iQ "tuple" vs.toArray 0)).push (iQ "list" #[] 0)) ks b:=λv hm=>by
  refine kC (hv v hm) ?_;intro ks b e hh aj;refine se aj ?_;clear aj;intro o it k vI hc hd hi;have Zo:b≠a:=by
   rintro rfl;rw[ho]at vI;injection vI with vI;rw[<-vI]at hc;have n9:nS "list"=nS "tuple":=hc;injection n9 with n9;exact absurd n9 (by decide)
  refine⟨ks,b,e,hh,o,it,k,?_,hc,hd,hi⟩;exact cv _ (cv _ ((xr _ _ (jz Zo)).trans vI))
 refine(?_:bm (bN X.prog X.w) A _ P E {s with heap:=((s.heap.update a (lB λU=> #[])).push (iQ "tuple" vs.toArray 0)).push (iQ "list" #[] 0)});dsimp only
 have fin:=h;by_cases h2:vs.toArray.size<2
 ·(refine aa (if_pos h2 ..) ?_;refine aa (if_pos h2 ..) ?_)
  refine ax (aP ?_);rewrite[StateT.run_pure];refine ax (aP ?_);dsimp only;refine ax (Gd zj rfl ?_);refine ax (Gc zj rfl ?_ (hsz2:=by refine aa (Array.size_map ..) ?_;show(pairsOf vs).size<=_;(rewrite[pairsOf_size];refine aa (lC ..) ?_);exact HR CY));simp only[bne_self_eq_false,dF,↓dy,if_false];have vJ:(pairsOf vs).map (·.2)=vs.toArray:=by
   apply Array.toList_inj.mp;refine(?_:((vs.toArray.zip vs.toArray).map (·.2)).toList=_);simp;exact List.map_snd_zip (bj _)
  have:=fin vs s.toks (.refl _);rw[<-vJ]at this;exact aP this
 ·(refine aa (if_neg h2 ..) ?_;refine aa (if_neg h2 ..) ?_)
  rw[fu]at h2;refine cb (abY (X:=X) DA) ?_;intro fs f1 f2 f3;refine ax (kat_kind (T:=.type "str") f2 (Te h2 f1) (λf hf=>?_) rfl ?_)
  ·(refine eC (f3 f hf) ?_;rintro x t rfl)
   exact .now
  refine ax (bP (kat_run (κ:=tuples' (nS "str" !=nS "tuple")) (ks:=vs) (vs:=vs) (Q:=λAg s'=>∃p:Array Nat,p.size=vs.length/\arrOf Ag=p.map (kas_item (vs.toArray.zip vs.toArray))/\failedOf Ag=ai/\fc vs.length p/\∃tk,s'={s with heap:=((s.heap.update a (lB λU=> #[])).push (iQ "tuple" vs.toArray 0)).push (iQ "list" #[] 0),toks:=tk})
   (G:=λp s'=>fc vs.length p/\∃tk,s'={s with heap:=((s.heap.update a (lB λU=> #[])).push (iQ "tuple" vs.toArray 0)).push (iQ "list" #[] 0),toks:=tk})
   rfl (Tf h2) CY (λp' Ag s' a1 a2 a3 a4=>⟨p',a1,a2,a3,a4⟩) (Iw (J:=λs'=>∃tk,s'={s with heap:=((s.heap.update a (lB λU=> #[])).push (iQ "tuple" vs.toArray 0)).push (iQ "list" #[] 0),toks:=tk}) (λi j C s' hi hj hJ hC=>?_) (λp s' hp hJ=>⟨hp,hJ⟩) _ _ (afd (Th h2)) ⟨s.toks,rfl⟩)) ?_ λU U e=>e)
  ·(refine aM hJ ?_;clear hJ;rintro tk rfl)
   unfold kas_ask;have gi:vs.getD i jA=vs[i]:=by(first|exact Cd hi|exact getD_get hi)
   have gj:vs.getD j jA=vs[j]:=by(first|exact Cd hj|exact getD_get hj)
   refine aa (gi ..) ?_;refine aa (gj ..) ?_;refine kC (DA vs[i] (ly hi)) ?_;intro ks b e hh hk;refine kC (DA vs[j] (ly hj)) ?_;intro ls c e' ZX dQ;refine aa (e ..) ?_;refine aa (e' ..) ?_;exact acP (s:={s with heap:=_,toks:=tk}) hh ZX hk dQ λc' qh=>hC c' _ ⟨qh,rfl⟩
  ·(intro aj;rcases aj with⟨⟨⟩,Ag⟩;intro s';intro aB;refine Au aB ?_;clear aB;intro p hp Zi hf gh aS;refine aM aS ?_;clear aS;rintro tk rfl)
   dsimp only;refine ax (Gd zj rfl ?_);have bW:(bT (p.toList.map λi=>vs.getD i jA)).size=vs.length:=by(refine aa (fu ..) ?_;rewrite[bp];refine aa (kG ..) ?_;refine aa (hp ..) ?_;rfl)
   refine aa (((kat_snds (ks:=vs) (vs:=vs) rfl Zi)) ..) ?_;refine ax (Gc zj rfl ?_ (hsz2:=dC (au bW) (by refine aa (lC ..) ?_;exact HR CY)));refine aa (hf ..) ?_;simp only[bne_self_eq_false,dF,↓dy,if_false];refine aP (fin _ tk ?_)
   have:=gh.map λi=>vs.getD i jA;rwa [range_getD]at this
end
end
section
section
variable{X:Fx}
theorem ac7(nd:Str×List Nat):sM (fm nd):=⟨nd.1,nd.2.map λk:Nat=>(k:Int),by unfold fm;refine aa (cB ..) ?_;rfl⟩
theorem ac8(nd:Str×List Nat):bk nd=.tup ((fm nd).map Atom.pv):=by
 unfold bk fm nats
 (refine aa (bB ..) ?_;refine aa (cB ..) ?_);rfl
theorem zV(x:aN β h (bk nd) v):∃b,v=.ref b/\gw (AK X) h (fm nd) b:=by
 rw[ac8]at x
 have x':=x;rcases x with⟨a,vs,n,rfl,_⟩
 exact⟨a,rfl,rG x'⟩
theorem ad0{xs:List (Str×List Nat)}:∀{out:List Value},(∀v∈out,∃nd∈xs,aN β h (bk nd) v)->∃ys:List (Str×List Nat),bf β h (ys.map bk) out/\(∀y∈ys,y∈xs)/\∀v∈out,∃y∈ys,aN β h (bk y) v:=by
 intro out;induction out with
 |nil=>
  intro _;exact⟨[],rfl,λy hy=>(by cases hy),λv hv=>by cases hv⟩
 |cons v out ih=>
  intro hv;refine ay (hv v ca) ?_;intro nd h1 h2;refine cb (ih λu hu=>hv u (cI _ hu)) ?_;intro ys g1 g2 g3;refine⟨nd::ys,bf.cons h2 g1,λy hy=>?_,λu hu=>?_⟩
  ·rcases cH.mp hy with rfl|hy
   ·exact h1
   ·exact g2 y hy
  ·rcases cH.mp hu with rfl|hu
   ·exact⟨nd,ca,h2⟩
   ·(refine ay (g3 u hu) ?_;intro y a b)
    exact⟨y,cI _ a,b⟩
theorem afi{n:Nat}{p:PV}{xs:List (Str×List Nat)}(hp:listOf H p=ae (xs.map bk))(hx:xs.length<=16)
 (q:∀ys:List (Str×List Nat),(∀y,y∈ys↔y∈xs)->Q (.lst (ys.map bk)) H):qT X n p H Q:=by
 intro A β s v ra r hv;rcases(iH r hv hp)with⟨a,vs,m,rfl,ho,rv⟩
 have bW:vs.toArray.size=(xs.map fm).length:=by(refine aa (fu ..) ?_;refine aa (rv.length ..) ?_;rewrite[bp];rewrite[bp];rfl)
 have vN:∀(i:Nat) (v:Value),vs.toArray[i]? =ae v->∃nd,xs[i]? =ae nd/\aN β s.heap (bk nd) v:=λi v hv=>by
  have hi:i<xs.length:=by have:=(ua.mp hv).1;rw[bW,bp]at this;exact this
  refine ay (rv.get (i:=i) (p:=bk xs[i]) (by(refine aa (dB ..) ?_;refine aa (bV hi ..) ?_);rfl)) ?_;intro v' e1 e2;rw[AE]at hv;rw[hv]at e1;injection e1 with e1;subst e1;exact⟨xs[i],bV hi,e2⟩
 have kj:∀(i:Nat) (v:Value),vs.toArray[i]? =ae v->∃ks b,(xs.map fm)[i]? =ae ks/\v=.ref b/\gw (AK X) s.heap ks b:=λi v hv=>by
  refine ay (vN i v hv) ?_;intro nd h1 h2;refine ay (zV (X:=X) h2) ?_;intro b e hk;exact⟨fm nd,b,by(refine aa (dB ..) ?_;refine aa (h1 ..) ?_);rfl,e,hk⟩
 refine jt (IR ra.hd (by have:=ra.units;exact HQ this) (im ho) (Vz (by rewrite[bp];exact hx) bW kj) lF.zero λh' tk es ep t g T hl C hold=>?_);intro rD;refine jt (M6 (s:={s with heap:=h',toks:=tk}) g T hl ra.hd λD h2 nF dr ws zl hD lN gh=>?_);have KH:∀v∈ws,∃nd∈xs,aN β s.heap (bk nd) v:=λv hv=>by
  refine ay (bH.mp (gh.mem_iff.mp hv)) ?_;rintro e he rfl;refine ay (C.src e he) ?_;intro j aj hj;refine ay (vN j _ hj) ?_;intro nd h1 h2;exact⟨nd,eD h1,h2⟩
 have mx:ws.length<=16:=by refine aa (gh.length_eq ..) ?_;have:=T.lim;simp;exact BS this
 refine qR Ge ⟨_,lN,rfl⟩ Gb (acs lN (x5 mx) (λv hv=>?_) λout tX vJ=>⟨_,rfl,?_⟩) (Ga _)
 ·(refine ay (KH v hv) ?_;intro nd aj h3)
  refine ay (zV (X:=X) h3) ?_;intro b e hk;exact⟨fm nd,b,e,ac7 nd,wL (wL hk hold) zl⟩
 ·intro hsz2
  refine aM (Gf (vs:=ws) (out:=out.toArray) lN) ?_;intro ec tt;have hL:aI=1000000:=rfl;refine cb (ad0 (xs:=xs) (out:=out) λv hv=>KH v (vJ.mem_iff.mp hv)) ?_;intro ys y1 y2 y3;have iF:∀y,y∈ys↔y∈xs:=λy=>by
   refine⟨y2 y,λhy=>?_⟩;refine aM (nM hy) ?_;intro j hj;have lK:j<vs.toArray.size:=by(refine aa (bW ..) ?_;rewrite[bp]);exact(bJ.mp hj).1
   refine ay (C.all j lK) ?_;intro e he aj;refine ay aj ?_;clear aj;intro j' h3 h4;refine ay (vN j' _ h3) ?_;intro nd g1 g2;have bv:nd=y:=by
    rw[dB,dB,g1,hj]at h4;exact wo (mQ h4)
   subst bv;refine ay (y3 e.2 (vJ.mem_iff.mpr (gh.mem_iff.mpr (bH.mpr ⟨e,he,rfl⟩)))) ?_;intro y' h5 h6;refine ay (zV (X:=X) g2) ?_;intro b e1 k1;refine ay (zV (X:=X) h6) ?_;intro b' e2 k2;rw[e1]at e2;injection e2 with e2;subst e2;refine aa (wo (k1.inj k2) ..) ?_;exact h5
  have r':aW X β H {s with drawn:=dr}:=⟨r.top,r.os,r.gens,r.inj,r.off,r.lo,r.obj,r.gU,r.nz,r.lU⟩
  have hz:ys.length<=aI:=by
   have:=y1.length;rw[bp]at this
   have:=vJ.length_eq;exact Ti mx hL (by assumption) this
  refine bn.pW (s:={s with drawn:=dr}) (aY:=ai) (vs:=out) r' y1 (dC rD hD) (λb o h=>?_) (dC rD hsz2) tt ⟨by rewrite[bp];exact hz,q ys iF⟩;have hb:b<D:=iP (cq h) (dC rD hD);refine aa (Gg (dN hb) (gO hb (cq lN)) ..) ?_;exact zl b o (hold b o h)
theorem eM.of(C:Ok X):eM X:={C with
 Fd:=λh1 U h3 q=>afg h1 h3 q
 M8:=λh1 h2 U q=>afi h1 h2 q}
end
end
section
theorem adm:typeLookup (.type "list") "keys"=pure ai:=by(rewrite[GP];refine aa (GC ..) ?_);kernel_rfl
theorem acr{A:bG}{E:Value->aV->Prop}{a:aL}{xs:Array Value}{Q:Option Value->aV->Prop}
 (hx:s.heap.get? a=ae {cls:=.type "list",dict:=ai,data:=.seq xs k,slots:= #[]})(hA:A.handled=ai)
 (h:∀h' tk,jb s.heap h'->Q ai {s with heap:=h',toks:=tk}):
 bm (bN prog w) A (getAttr? (.ref a) "keys") Q E s:=by
 rcases s with⟨hp,g,d,tk,os⟩
 have hT:∀qh,(⟨hp,g,d,qh,os⟩:aV).TypeIs (.ref a) "list":=λU=>⟨_,hx,rfl⟩
 have f1:=Pw
 have f3:=Gq.lookup
 have f4:=Gq.bind (.ref a)
 have f5:=am_list_getattr_none;have key:∀tk,bm (bN prog w) A (getAttrBy (.ref a) (.str "keys" tk) aq) (λU U=>False) (λe s'=>∃h' qh x,e=.ref x/\s'=⟨h',g,d,qh,os⟩/\Heap.NewExcOf hp h' x "AttributeError") ⟨hp,g,d,tk+1,os⟩:=by
  intro tk;unfold getAttrBy;repeat(any_goals (first|assumption|exact hT _|((with_reducible show bm _ _ (call (GA "list.__getattribute__") _ _) _ _ _);refine Ba Gq (hT _) am_entry_list_getattribute (F.args_list_getattribute_2 _ _) (meets_getattribute_miss_list a xs k #[] "keys" _ adm (by decide+kernel)) ⟨hx,hA,λh' qh e k7=>?_⟩)|wp_step))
  refine eC k7.there ?_;intro t' u' he;refine(?_:bm _ _ (Pq _ _ _ _ _ _ _) _ _ _);unfold Pq;repeat(any_goals (first|assumption|wp_step))
  exact⟨_,_,_,rfl,rfl,k7.of⟩
 unfold getAttr? getAttrBy?;refine ax (uF ?_);refine ax (wpAny_attempt (bP (key tk) (λU U x=>x.elim) λe s' x=>?_));refine fL x ?_;clear x;rintro h' qh x rfl aB;refine aK aB ?_;clear aB;rintro rfl k7;rcases k7 with⟨k1,_,dx,h3,h4⟩
 dsimp only;refine ax (GS (T:="AttributeError") (b:=ag) ⟨dx,h4.1,h4.2.1⟩ Pw ?_);refine aa (if_pos rfl ..) ?_;exact aP (h h' qh k1)
end
section
theorem Jl:Bf table "dict.update.loop"=ae Builtin.«dict.update.loop»:=entryFor_of_tree (by kernel_rfl)
theorem z8:plainId "dict.update.loop"=ag:=by decide+kernel
section
variable{X:Fx}{A:bG}{E:Value->aV->Prop}
noncomputable def storeAll(kvs:List (Atom×Value)):List (Atom×Value):=kvs.foldl (λacc kv=>stored acc kv.1 kv.2) []
theorem Nc(kvs:List (Atom×Value)):(storeAll kvs).length<=kvs.length:=by
 unfold storeAll;have:∀(kvs acc:List (Atom×Value)),(kvs.foldl (λacc kv=>stored acc kv.1 kv.2) acc).length<=acc.length+kvs.length:=by
  intro kvs;induction kvs with
  |nil=>intro acc;exact bj _
  |cons a r ih=>
   intro acc;refine aa (lx ..) ?_;refine dC (ih _) ?_;have:(stored acc a.1 a.2).length<=acc.length+1:=by unfold stored;split<;>simp
   refine aa (dX ..) ?_;exact Tj this
 simpa using this kvs []
def Bw(X:Fx)(h:Heap)(v:Value)(kv:Atom×Value):Prop:=∃b kk n,v=.ref b/\h.get? b=ae ⟨.type "tuple",ai,.seq #[kk,kv.2] n,#[]⟩/\kv.1.is kk=ag
theorem XH{I l d:aL}{kvs:List (Atom×Value)}(hh:A.in1.handled=ai)(Y5:l≠I)(Db:d≠I)(y8:d≠l)(dP:h₀.objs.size<=d)(pN:h₀.objs.size<=I)(hn:items.size=kvs.length)(hz:kvs.length<=100)
 (hp:∀(i:Nat) (v:Value),items[i]? =ae v->∃kv,kvs[i]? =ae kv/\Bw X h₀ v kv):
 ∀(k i:Nat) (s:aV) (Fm:iw),items.size - i=k->i<=items.size->s.heap.IsListIter I l i->s.heap.IsList l items->jb h₀ s.heap->s.heap.DictOf (AK X) d (storeAll (kvs.take i))->
  (∀h' tk,(∀b o,b∉[d,I]->s.heap.get? b=ae o->h'.get? b=ae o)->h'.DictOf (AK X) d (storeAll kvs)->R (.ok (.ret .none)) {s with heap:=h',toks:=tk})->
  kM (bN X.prog X.w) A (.builtin "dict.update.loop" ⟨[.ref d,.ref I,.int (i:Int) Fm,.none],[]⟩) R s:=by
 have W:=uz (prog:=X.prog) (w:=X.w) hh I l Y5 items;have kh:sizeLine=sizeLine:=rfl;intro k;induction k with
 |zero=>
  intro i s Fm hk hi hit zf hold hd hR;have jL:i=items.size:=HJ hk hi;subst jL;refine qP Jl ?_;refine aa (sB z8 _ ..) ?_;refine(?_:bm _ A.in1 (nU (.ref I)>>=_) _ _ s);refine ax (W.done s _ _ ⟨hit,zf⟩ λh' tk dQ=>?_);show bm _ A.in1 (do Builtin.Dict.addKeywords d [];ret jA) _ _ _;refine ax (aP ?_);refine aP (hR h' tk (λb o hb e=>dQ b o (λh=>hb (by simp at h;simp[h])) e) ?_);rw[hn,kL]at hd;refine fL hd ?_;clear hd;intro o es ep ho r;exact⟨o,es,ep,dQ d o (by simp[Db]) ho,r⟩
 |succ k ih=>
  intro i s Fm hk hi hit zf hold hd hR;have bo:i<items.size:=HK hk;refine qP Jl ?_;refine aa (sB z8 _ ..) ?_;refine(?_:bm _ A.in1 (nU (.ref I)>>=_) _ _ s);refine ax (W.item i s _ _ bo ⟨hit,zf⟩ λv h1 tk hv eU cV=>?_);refine ay (hp i v hv) ?_;intro kv aad aj;refine fL aj ?_;clear aj;rintro b kk m rfl aS;refine aK aS ?_;clear aS;intro hb ii;have pR:jb h₀ h1:=λx o e=>cV x o (by
   simp only[eR];intro hx;exact absurd (cq e) (l9.mpr (hx▸pN))) (hold x o e)
  have J5:=pR b _ hb;have tp:h1.DictOf (AK X) d (storeAll (kvs.take i)):=by
   refine fL hd ?_;clear hd;intro o es ep ho r;exact⟨o,es,ep,cV d o (by simp[Db]) ho,r⟩
  dsimp only;refine ax (cU ?_);refine ax (wpAny_tryCatch ?_);unfold Builtin.Dict.pairItems;refine ax (xN (⟨_,J5,rfl⟩) ?_);refine aa (if_pos (by rfl) ..) ?_;refine ax (xL J5 rfl (aP ?_));refine cU (Pz (knd:=AK X) ii tp (λh2 hd2 zo=>?_) (by
   have h3:(kvs.take i).length<=kvs.length:=by refine aa (sq ..) ?_;exact Tk
   refine aa (lC ..) ?_;exact To hz (Nc (kvs.take i)) h3))
  have fT:storeAll (kvs.take (i+1))=stored (storeAll (kvs.take i)) kv.1 kv.2:=by
   refine aa (kK ..) ?_;refine aa (aad ..) ?_;unfold storeAll;refine aa (sj ..) ?_;rfl
  refine aP ⟨sI z8 _,ih (i+1) _ _ (HL hk) bo ?_ ?_ ?_ (by refine aa (fT ..) ?_;exact hd2) λh3 tX vE Zz=>?_⟩
  ·(refine ay (eU.1) ?_;intro o ho r)
   exact⟨o,(zo.2 I (jz Db)).trans ho,r⟩
  ·(refine ay (eU.2) ?_;intro o ho r)
   exact⟨o,(zo.2 l (jz y8)).trans ho,r⟩
  ·intro x o e
   have hx:x≠d:=λhx=>absurd (cq e) (l9.mpr (hx▸dP));exact(zo.2 x hx).trans (pR x o e)
  ·refine hR h3 tX (λx o hx e=>vE x o hx ?_) Zz
   simp only[cH,kJ,or_false,not_or]at hx;exact(zo.2 x hx.1).trans (cV x o (by simp[hx.2]) e)
theorem WW{l:aL}{kvs:List (Atom×Value)}{Q:Value->aV->Prop}(hh:A.handled=ai)(hl:s.heap.get? l=ae ⟨.type "list",ai,.seq items m,#[]⟩)(hn:items.size=kvs.length)(hz:kvs.length<=100)
 (hp:∀(i:Nat) (v:Value),items[i]? =ae v->∃kv,kvs[i]? =ae kv/\Bw X s.heap v kv)
 (h:∀h' tk,jb s.heap h'->h'.DictOf (AK X) s.heap.objs.size (storeAll kvs)->Q (.ref s.heap.objs.size) {s with heap:=h',toks:=tk}):
 bm (bN X.prog X.w) A (call (.type "dict") [.ref l]) Q E s:=by
 have Ks:=cq hl;refine callType_codes (Q₁:=λobj s₁=>obj=.ref s.heap.objs.size/\s₁={s with heap:=s.heap.push {cls:=.type "dict",data:=.dict #[]} }) F.kt_called_dict (F.kt_typeCall_dict_1 _) F.entry_dict_init (kt_code_dict_new _ ⟨rfl,rfl⟩) ?_
 (intro obj;intro s₁;intro aj;refine aK aj ?_;clear aj;rintro rfl rfl)
 have lM:(s.heap.push {cls:=.type "dict",data:=.dict #[]}).DictOf (AK X) s.heap.objs.size []:=Heap.DictOf.new s.heap;have kW:(s.heap.push {cls:=.type "dict",data:=.dict #[]}).get? l=ae ⟨.type "list",ai,.seq items m,#[]⟩:=cv _ hl;refine⟨lM.typeIs,F.args_dict_init_2 _ _,?_⟩;unfold Builtin.«dict.__init__»;refine ax ?_;unfold Builtin.Dict.selfAndRest;refine ax (PB lM.typeIs ?_);refine(?_:bm _ _ (pure (s.heap.objs.size,[sC l])) _ _ _);refine aP ?_;refine(?_:bm _ _ (OX "dict.__init__" s.heap.objs.size (.ref l) [] .none) _ _ _);unfold OX;refine ax (xN (T:="list") ⟨_,kW,rfl⟩ ?_);refine aa (if_pos (by decide) ..) ?_;refine ax (acr (s:={s with heap:=_}) kW hh λh1 Nq cV=>?_);simp only[Option.isNone_none,↓fw,if_true];refine ax (qS ?_);have kX:h1.IsList l items:=⟨_,cV _ _ kW,rfl,m,rfl⟩
 refine ax (uG (s:={s with heap:=h1,toks:=Nq}) kX ?_);have pR:jb s.heap h1:=λb o e=>cV b o (cv _ e);have tp:h1.DictOf (AK X) s.heap.objs.size []:=by
  refine fL lM ?_;clear lM;intro o es ep ho r;exact⟨o,es,ep,cV _ _ ho,r⟩
 have zr:s.heap.objs.size<h1.objs.size:=by
  refine fL tp ?_;clear tp;intro o es ep ho r;exact cq ho
 refine aP ⟨sI z8 _,?_⟩;refine XH (A:=A.in1) (h₀:=s.heap) hh (dN (gO Ks zr)) (dN zr) (xi Ks) (bj _) (jy zr) hn hz hp (items.size - 0) 0 _ 0 (HM) (cJ _) ⟨_,dw _ rfl,rfl,rfl⟩ (kX.push _) (λb o e=>cv _ (pR b o e)) (by
  refine fL tp ?_;clear tp;intro o es ep ho r;exact⟨o,es,ep,cv _ ho,r⟩) λh' tk dQ fI=>?_
 refine⟨rfl,h h' tk (λb o e=>dQ b o ?_ (cv _ (pR b o e))) fI⟩
 have hb:=cq e;simp only[cH,kJ,or_false,not_or];exact⟨dN hb,dN (gO hb zr)⟩
end
end
section
noncomputable def s9(xs:List (Nat×cr)):List (Atom×PV):=xs.foldl (λacc x=>dput acc (.i (x.1:Int)) (.ak x.2)) []
noncomputable def tO(x:Nat×cr):PV:=.tup [nat x.1,.ak x.2]
section
variable{X:Fx}{n:Nat}
theorem Wf{xs:List (Nat×cr)}{f:dn}(hz:xs.length<=100)(q:Q (.ak (H.next f)) (H.push (.aH (s9 xs)) f)):ia X n .dictOf [.lst (xs.map tO)] H Q:=by
 intro A β s vs ra r hv;rcases hv with⟨v,cp,rfl,x,e'⟩
 refine aa ((show cp=[]from e') ..) ?_;rcases x with⟨l,ws,m,rfl,hl,_,rv⟩
 have hlen:ws.length=xs.length:=by(refine aa (rv.length ..) ?_;rewrite[bp];rfl)
 have aZ:∀{xs:List (Nat×cr)} {ws:List Value},bf β s.heap (xs.map tO) ws->∃kvs:List (Atom×Value),kvs.length=xs.length/\(∀(i:Nat) (v:Value),ws[i]? =ae v->∃kv,kvs[i]? =ae kv/\Bw X s.heap v kv)/\
  ∀(yi:List (Atom×PV)) (yj:List (Atom×Value)),dY β s.heap yi yj->dY β s.heap (xs.foldl (λacc x=>dput acc (.i (x.1:Int)) (.ak x.2)) yi) (kvs.foldl (λacc kv=>stored acc kv.1 kv.2) yj):=by
  intro xs;induction xs with
  |nil=>
   intro ws h;refine aa ((show ws=[]from h) ..) ?_;exact⟨[],rfl,λi v hv=>by exact ns hv,λyi yj h=>h⟩
  |cons x xs ih=>
   (intro _;intro aj;rcases aj with⟨w,ws,rfl,hx,hr⟩)
   refine cb (ih hr) ?_;intro kvs h1 h2 h3;rcases hx with⟨b,us,k,rfl,hb,_,hu⟩
   rcases hu with⟨u1,ag9,rfl,aaZ,aa0⟩
   rcases aa0 with⟨u2,af3,rfl,aa1,aa2⟩
   rw[show af3=[]from aa2]at hb;refine⟨(.i (x.1:Int),u2)::kvs,by simp[h1],λi v hv=>?_,λyi yj h=>?_⟩
   ·cases i with
    |zero=>
     simp only[List.getElem?_cons_zero,ut]at hv;subst hv;exact⟨_,rfl,b,u1,k,rfl,hb,n0 (k:=.i (x.1:Int)) aaZ⟩
    |succ i=>
     simp only[Oh]at hv;exact h2 i v hv
   ·(refine aa (lx ..) ?_;refine aa (lx ..) ?_)
    exact h3 _ _ (h.put aa1)
 refine cb (aZ rv) ?_;intro kvs h1 h2 h3;have hL:aI=1000000:=rfl;refine jt (WW (kvs:=kvs) ra.hd hl (by refine aa (fu ..) ?_;exact Hj hlen h1) (Tp hz h1) (λi v hv=>h2 i v (by rw[AE]at hv;exact hv)) λh' tk hk hd=>?_);intro bW
 have Ki:=h3 [] [] (show dY β s.heap ([]:List (Atom×PV)) []from rfl);refine ay (qL.mp hd) ?_;intro o ho ni;have g:Go bO β (β.put (H.next f) s.heap.objs.size) s.heap h':=by
  refine⟨λl b e=>?_,λl b e=>?_,λb x q U U=>hk b x q,λb x q U U=>hk b x q,bW⟩
  ·unfold bz.put;refine aa (if_neg (λz=>by rw[z,(r.gU _ (H.jl f) (H.vp f))]at e;exact ns e) ..) ?_;exact e
  ·unfold bz.put at e
   by_cases hl:l=H.next f
   ·rw[if_pos hl]at e;obtain rfl:=so e;exact .inr (bj _)
   ·rw[if_neg hl]at e;exact .inl e
 have nj:(s9 xs).length<=aI:=by
  exact Tq hz h1 hL (Nc kvs) Ki.length.symm
 refine aK (r.push (h':=h') (tk:=tk) (po:=.aH (s9 xs)) f (bj _) hk bW ho ⟨storeAll kvs,ni,dY.go g Ki,nj⟩) ?_;intro r' g';exact⟨_,_,_,r',qa (H.jl f) (by unfold bz.put;(refine aa (if_pos rfl ..) ?_;rfl)),g',q⟩
end
end
section
inductive eS(ops:List (Str×List Nat))(f:Nat->Nat):Nat->Nat->Prop
 |mk {n m:Nat} {nd:Str×List Nat} {bs:List Nat} (h:ops[m]? =ae nd) (e:f m=f n) (hl:bs.length=nd.2.length) (hk:∀i,i<nd.2.length->eS ops f (nd.2.getD i 0) (bs.getD i 0)):eS ops f n (overF nd.1 bs)
def Down(ops:List (Str×List Nat)):Prop:=∀(m:Nat) nd,ops[m]? =ae nd->∀k∈nd.2,k<m
theorem getD_mem{l:List Nat}{d:Nat}(h:i<l.length):l.getD i d∈l:=by
 refine aa (da ..) ?_;refine aa (bV h ..) ?_;exact ly h
theorem eS.pH{n n':Nat}(h:eS ops f n b)(e:f n=f n'):eS ops f n' b:=by
 cases h with
 |mk h1 h2 h3 h4=>exact .mk h1 (h2.trans e) h3 h4
theorem eS.mono{wA:List (Str×List Nat)}{g:Nat->Nat}(hd:Down ops)(hp:∀(m:Nat) nd,ops[m]? =ae nd->wA[m]? =ae nd)(Dh:∀a b,a<ops.length->b<ops.length->f a=f b->g a=g b){n:Nat}(h:eS ops f n b)(hn:n<ops.length):eS wA g n b:=by
 induction h with
 | @mk n m nd bs h1 h2 h3 h4 ih=>
   have hm:=(bJ.mp h1).1;refine .mk (hp _ _ h1) (Dh _ _ hm hn h2) h3 λi hi=>ih i hi ?_;exact gO (hd m nd h1 _ (getD_mem hi)) hm
theorem Mn:∀(bs:List Nat) (a k:Nat),(bs.foldl (·||| ·) a).testBit k=(a.testBit k||bs.any λb=>b.testBit k):=by
 intro bs;induction bs with
 |nil=>
  intro a k;simp
 |cons b bs ih=>
  intro a k;refine aa (lx ..) ?_;rewrite[ih];rewrite[OO];refine aa (oQ ..) ?_;rewrite[Bool.or_assoc];rfl
noncomputable def wH(op:Str)(l k:Nat):Nat:=if op="lam"/\l=1 then k+1 else k
theorem z7(h:¬(gq op=ag/\bs=[]))(k:Nat):(overF op bs).testBit k=bs.any λb=>b.testBit (wH op bs.length k):=by
 unfold overF wH;refine aa (if_neg h ..) ?_;split
 ·(rewrite[Nat.testBit_div_two];rewrite[Mn]);simp
 ·rewrite[Mn];simp
theorem EY(hj:3<=j)(h:∀b∈bs,b<2^j):overF op bs<2^j:=by
 have Kz:bs.foldl (·||| ·) 0<2^j:=by
  have:∀(bs:List Nat) (a:Nat),a<2^j->(∀b∈bs,b<2^j)->bs.foldl (·||| ·) a<2^j:=by
   intro bs;induction bs with
   |nil=>intro a ha _;exact ha
   |cons b bs ih=>intro a ha hb;exact ih _ (OL ha (hb b ca)) λx hx=>hb x (cI _ hx)
  exact this bs 0 (Nat.two_pow_pos j) h
 unfold overF;split
 ·have h1:jT op<j:=by
   have:jT op<=2:=by unfold jT;split<;>(try split)<;>decide
   exact Tr hj this
  exact Nat.pow_lt_pow_right (by decide) h1
 ·split
  ·exact xd (Nat.div_le_self _ _) Kz
  ·exact Kz
theorem mem_getD{l:List Nat}{x:Nat}(h:x∈l):∃i,i<l.length/\l.getD i 0=x:=by
 refine aM (nM h) ?_;intro i hi;refine⟨i,(bJ.mp hi).1,?_⟩
 (refine aa (da ..) ?_;refine aa (hi ..) ?_);rfl
theorem eS.LO{n:Nat}(h:eS ops f n b):b<8:=by
 induction h with
 | @mk n m nd bs h1 h2 h3 h4 ih=>
   refine EY (j:=3) (by decide) λb hb=>?_;refine ay (mem_getD hb) ?_;rintro i hi rfl;exact ih i (eE h3 hi)
theorem eS.some(hd:Down ops):∀n,n<ops.length->∃b,eS ops f n b:=by
 intro n;induction n using xj with
 |ind n ih=>
  intro hn;have h1:ops[n]? =.some ops[n]:=bV hn;generalize ops[n]=nd at h1;have hk:∀k∈nd.2,∃b,eS ops f k b:=λk hk=>ih k (hd n nd h1 k hk) (gO (hd n nd h1 k hk) hn);have:∃bs:List Nat,bs.length=nd.2.length/\∀i,i<nd.2.length->eS ops f (nd.2.getD i 0) (bs.getD i 0):=by
   generalize nd.2=l at hk;clear h1;induction l with
   |nil=>exact⟨[],rfl,λi hi=>by simp at hi⟩
   |cons a l vW=>
    refine ay (vW λk dQ=>hk k (cI _ dQ)) ?_;intro bs g1 g2;refine aM (hk a ca) ?_;intro b hb;refine⟨b::bs,by simp[g1],λi hi=>?_⟩;cases i with
    |zero=>exact hb
    |succ i=>exact g2 i (by simpa using hi)
  refine ay this ?_;clear this;intro bs g1 g2;exact⟨_,.mk h1 rfl g1 g2⟩
noncomputable def kb:Option Nat->Nat->Bool
 |none,_=>ag
 |.some b,k=>b.testBit k
theorem DO(x y:Option Nat)(k:Nat):kb (cR x y) k=(kb x k&&kb y k):=by
 cases x<;>cases y<;>(first|rfl|simp[cR,kb,sy])
def lG(ops:List (Str×List Nat))(f:Nat->Nat)(n k:Nat):Prop:=∀b,eS ops f n b->b.testBit k=ag
theorem lG.pH{n n':Nat}(h:lG ops f n k)(e:f n=f n'):lG ops f n' k:=λb hb=>h b (hb.pH e.symm)
theorem adA{n:Nat}(h:¬lG ops f n k):∃b,eS ops f n b/\b.testBit k=aq:=by
 refine uc λhc=>h λb hb=>?_;cases e:b.testBit k with
 |true=>rfl
 |false=>exact absurd ⟨b,hb,e⟩ hc
theorem ads{val:Nat->Option Nat}(h1:ops[m]? =ae nd)(hU:∀c∈nd.2,∀k,lG ops f c k->kb (val c) k=ag)(hn:lG ops f m k):kb (ee nd.1 (nd.2.map val)) k=ag:=by
 unfold ee;by_cases ik:ai∈nd.2.map val
 ·refine aa (uR ik ..) ?_;rfl
 ·(refine ay (yk ik) ?_;intro bs e1 e2)
  refine aa (e1 ..) ?_;refine(?_:(overF nd.1 bs).testBit k=ag);have hlen:bs.length=nd.2.length:=by have:=congrArg sm e2;simpa using this.symm
  have kj:∀i,i<nd.2.length->val (nd.2.getD i 0)=ae (bs.getD i 0):=λi hi=>by
   have h5:=congrArg (λl=>l[i]?) e2;simp only[dB,bV hi,bV (show i<bs.length by exact ie hlen hi),mc]at h5;injection h5 with h5;refine aa (da ..) ?_;refine aa (bV hi ..) ?_;refine aa (da ..) ?_;refine aa (bV (show i<bs.length by exact ie hlen hi) ..) ?_;exact h5
  by_cases hv:gq nd.1=ag/\bs=[]
  ·refine hn _ (.mk h1 rfl hlen λi hi=>?_)
   rw[hv.2]at hlen;simp at hlen;omega
  ·refine uc λhc=>?_
   rw[z7 hv,FD,List.any_eq_false]at hc;have hex:∀i,i<nd.2.length->∃b',eS ops f (nd.2.getD i 0) b'/\b'.testBit (wH nd.1 nd.2.length k)=aq:=λi hi=>by
    refine adA λaao=>?_
    have h6:=hU _ (getD_mem hi) _ aao;rw[kj i hi]at h6
    have h7:=hc (bs.getD i 0) (getD_mem (ie hlen hi));rw[hlen]at h7;exact h7 h6
   have:∃pE:List Nat,pE.length=nd.2.length/\∀i,i<nd.2.length->eS ops f (nd.2.getD i 0) (pE.getD i 0)/\(pE.getD i 0).testBit (wH nd.1 nd.2.length k)=aq:=by
    generalize wH nd.1 nd.2.length k=j at hex;generalize nd.2=l at hex;clear kj hlen hc hv e2 ik h1 hU;induction l with
    |nil=>exact⟨[],rfl,λi hi=>by simp at hi⟩
    |cons a l vW=>
     refine ay (vW λi hi=>by exact hex (i+1) (by simpa using hi)) ?_;intro pE g1 g2;refine aM (hex 0 (by exact bR rfl)) ?_;intro b hb;refine⟨b::pE,by simp[g1],λi hi=>?_⟩;cases i with
     |zero=>exact hb
     |succ i=>exact g2 i (by simpa using hi)
   refine ay this ?_;clear this;intro pE g1 g2
   have h8:=hn _ (.mk h1 rfl g1 λi hi=>(g2 i hi).1);have eA:¬(gq nd.1=ag/\pE=[]):=λh=>hv ⟨h.1,by
    have:bs.length=0:=by(refine aa (hlen ..) ?_;refine aQ (g1 ..) ?_;refine aa (h.2 ..) ?_);rfl
    exact mO.mp this⟩
   rw[z7 eA,mN]at h8;refine ay h8 ?_;clear h8;intro b hb h9;refine ay (mem_getD hb) ?_;rintro i hi rfl;rw[g1,(g2 i (eE g1 hi)).2]at h9;exact ff h9
def uK(ops:List (Str×List Nat))(f:Nat->Nat)(val:Nat->Option Nat)(r:Nat):Prop:=∀(m:Nat) nd,ops[m]? =ae nd->f m=r->cR (val r) (ee nd.1 (nd.2.map λc=>val (f c)))=val r
theorem M9{val:Nat->Option Nat}(hd:Down ops)(hs:∀n,n<ops.length->uK ops f val (f n)){n:Nat}(h:eS ops f n b)(hn:n<ops.length):∃v,val (f n)=ae v/\∀k,v.testBit k=ag->b.testBit k=ag:=by
 induction h with
 | @mk n m nd bs h1 h2 h3 h4 ih=>
   have kU:∀i,i<nd.2.length->nd.2.getD i 0<ops.length:=λi hi=>gO (hd m nd h1 _ (getD_mem hi)) ((bJ.mp h1).1)
   have fS:=hs n hn m nd h1 h2;have vS:∃vs:List Nat,(nd.2.map λc=>val (f c))=vs.map ae/\vs.length=nd.2.length/\∀i,i<nd.2.length->∀k,(vs.getD i 0).testBit k=ag->(bs.getD i 0).testBit k=ag:=by
    have vV:∀i,i<nd.2.length->∃v,val (f (nd.2.getD i 0))=ae v/\∀k,v.testBit k=ag->(bs.getD i 0).testBit k=ag:=λi hi=>ih i hi (kU i hi);clear ih h4 kU fS h2;generalize nd.2=l at*;clear h1;induction l generalizing bs with
    |nil=>exact⟨[],rfl,rfl,λi hi=>by simp at hi⟩
    |cons a l vW=>
     cases bs with
     |nil=>simp at h3
     |cons b bs=>
      refine cb (vW (bs:=bs) (by simpa using h3) λi hi=>by exact vV (i+1) (by simpa using hi)) ?_;intro vs g1 g2 g3;refine ay (vV 0 (by exact bR rfl)) ?_;intro v e1 e2;simp at e1 e2;refine⟨v::vs,by simp[e1,g1],by simp[g2],λi hi k hk=>?_⟩;cases i with
      |zero=>exact e2 k (by exact hk)
      |succ i=>exact g3 i (by simpa using hi) k (by exact hk)
   refine cb vS ?_;clear vS;intro vs g1 g2 g3;have aaq:ee nd.1 (nd.2.map λc=>val (f c))=ae (overF nd.1 vs):=by
    refine aa (g1 ..) ?_;unfold ee;have:m1 (vs.map ae)=ae vs:=by
     clear g1 g2 g3;induction vs with
     |nil=>rfl
     |cons v vs abu=>show(m1 (vs.map ae)).map (v:: ·)=_;refine aa (abu ..) ?_;rfl
    refine aa (this ..) ?_;rfl
   rw[aaq]at fS;cases hv:val (f n)with
   |none=>rw[hv]at fS;exact sn fS
   |some v=>
    rw[hv]at fS;refine⟨v,rfl,λk hk=>?_⟩
    have h5:=DO (ae v) (ae (overF nd.1 vs)) k;rw[fS]at h5;have h6:(overF nd.1 vs).testBit k=ag:=by
     have:v.testBit k=(v.testBit k&&(overF nd.1 vs).testBit k):=h5;rw[hk,AA]at this;exact this.symm
    by_cases eA:gq nd.1=ag/\vs=[]
    ·have:bs=[]:=mO.mp (by(refine aa (h3 ..) ?_;refine aQ (g2 ..) ?_;refine aa (eA.2 ..) ?_);rfl)
     (refine aa (this ..) ?_;refine aQ (eA.2 ..) ?_);exact h6
    ·have C7:¬(gq nd.1=ag/\bs=[]):=λh=>eA ⟨h.1,mO.mp (by(refine aa (g2 ..) ?_;refine aQ (h3 ..) ?_;refine aa (h.2 ..) ?_);rfl)⟩
     rw[z7 eA,mN]at h6;refine ay h6 ?_;clear h6;intro w hw h7;refine ay (mem_getD hw) ?_;rintro i hi rfl
     (rewrite[z7 C7];rewrite[mN])
     rw[g2]at h7 hi;exact⟨bs.getD i 0,getD_mem (ie h3 hi),by refine aa (h3 ..) ?_;exact g3 i hi _ h7⟩
theorem ab0{val:Nat->Option Nat}(hd:Down ops)(hs:∀n,n<ops.length->uK ops f val (f n))(hU:∀n,n<ops.length->∀k,lG ops f n k->kb (val (f n)) k=ag){n:Nat}(hn:n<ops.length):∃v,val (f n)=ae v/\∀k,v.testBit k=ag↔lG ops f n k:=by
 refine aM (eS.some (f:=f) hd n hn) ?_;intro b hb;refine ay (M9 hd hs hb hn) ?_;intro v hv aj;refine⟨v,hv,λk=>⟨λhk b hb=>?_,λhk=>?_⟩⟩
 ·(refine ay (M9 hd hs hb hn) ?_;intro v' eA h)
  rw[hv]at eA;injection eA with eA;subst eA;exact h k hk
 ·have:=hU n hn k hk
  rw[hv]at this;exact this
end
section
theorem zD(x y z:Option Nat):cR (cR x y) z=cR x (cR y z):=by
 cases x<;>cases y<;>cases z<;>(first|rfl|simp[cR,Nat.and_assoc])
theorem abO(x y:Option Nat):cR x y=cR y x:=by
 cases x<;>cases y<;>(first|rfl|simp[cR,Nat.and_comm])
theorem abP(x:Option Nat):cR x x=x:=by cases x<;>(first|rfl|simp[cR])
theorem abQ(x:Option Nat):cR x ai=x:=by cases x<;>rfl
section
variable{α:Type}(g:α->Option Nat)
theorem Jw:∀(ys:List α) (x:Option Nat),ys.foldl (λf y=>cR f (g y)) x=cR x (ys.foldl (λf y=>cR f (g y)) ai):=by
 intro ys;induction ys with
 |nil=>
  intro x;simp[abQ]
 |cons y ys ih=>
  intro x
  (refine aa (lx ..) ?_;refine aa (lx ..) ?_;refine aa (ih (cR x (g y)) ..) ?_;refine aa (ih (cR ai (g y)) ..) ?_;rewrite[zD]);rfl
theorem YG:∀(ys:List α) (x:Option Nat) (y:α),y∈ys->cR (ys.foldl (λf y=>cR f (g y)) x) (g y)=ys.foldl (λf y=>cR f (g y)) x:=by
 intro ys;induction ys with
 |nil=>
  intro x y h
  first|exact ns h|exact absurd h kJ
 |cons y' ys ih=>
  intro x y h;refine aa (lx ..) ?_;rcases cH.mp h with rfl|h
  ·refine aa (Jw g ys (cR x (g y)) ..) ?_
   generalize ys.foldl (λf y=>cR f (g y)) ai=z
   (rewrite[zD];refine aa (abO z (g y) ..) ?_;rewrite[<-zD];refine aa (zD x (g y) (g y) ..) ?_;rewrite[abP];rfl)
  ·exact ih _ y h
theorem YH(k:Nat):∀(ys:List α) (x:Option Nat),kb x k=ag->(∀y∈ys,kb (g y) k=ag)->kb (ys.foldl (λf y=>cR f (g y)) x) k=ag:=by
 intro ys;induction ys with
 |nil=>
  intro x h _;exact h
 |cons y ys ih=>
  intro x h h2;refine aa (lx ..) ?_;refine ih _ ?_ λz hz=>h2 z (cI _ hz)
  (rewrite[DO];refine aa (h ..) ?_;refine aa (h2 y ca ..) ?_);rfl
def fW(x:Option Nat):Prop:=∀b,x=ae b->b<4096
theorem Lf{x:Option Nat}(hx:fW x)(hy:fW y):fW (cR x y):=by
 intro b hb;cases x with
 |none=>exact hy b hb
 |some a=>
  cases y with
  |none=>exact hx b hb
  |some c=>
   simp only[cR,ut]at hb
   have:=hx a rfl
   have:=OF (n:=a) (m:=c);exact Ts hb (by assumption) this
theorem fold_lt:∀(ys:List α) (x:Option Nat),fW x->(∀y∈ys,fW (g y))->fW (ys.foldl (λf y=>cR f (g y)) x):=by
 intro ys;induction ys with
 |nil=>
  intro x h _;exact h
 |cons y ys ih=>
  intro x h h2;exact ih _ (Lf h (h2 y ca)) λz hz=>h2 z (cI _ hz)
end
theorem ado{vs:List (Option Nat)}(h:∀x∈vs,fW x):fW (ee op vs):=by
 intro b hb;unfold ee at hb;rw[i9]at hb;refine ay hb ?_;clear hb;rintro bs h1 rfl;have ik:ai∉vs:=λhn=>by rw[uR hn]at h1;exact ns h1
 refine ay (yk ik) ?_;intro pE e1 e2;rw[h1]at e1;injection e1 with e1;subst e1;refine EY (j:=12) (by decide) λb hb=>?_;exact h (ae b) (by refine aa (e2 ..) ?_;exact bH.mpr ⟨b,hb,rfl⟩) b rfl
noncomputable def rank:Option Nat->Nat
 |none=>13
 |some b=>(bw 12).countP λk=>b.testBit k
theorem aee(x:Option Nat):rank x<=13:=by
 cases x with
 |none=>exact bj _
 |some b=>
  have:(bw 12).countP (λk=>b.testBit k)<=(bw 12).length:=FM;rw[eZ]at this;refine(?_:(bw 12).countP _<=13);exact Tt this
theorem I5{p q:Nat->Bool}:∀{l:List Nat},(∀x∈l,p x=ag->q x=ag)->(∃x∈l,q x=ag/\p x=aq)->l.countP p<l.countP q:=by
 intro l;induction l with
 |nil=>
  intro _ dW;(refine ay dW ?_;clear dW;intro x hx aj);cases hx
 |cons a l ih=>
  intro h dW;(refine cb dW ?_;clear dW;intro x hx h1 h2);have hl:l.countP p<=l.countP q:=List.countP_mono_left λy hy hp=>h y (cI _ hy) hp;refine aa (wY ..) ?_;refine aa (wY ..) ?_;rcases cH.mp hx with rfl|hx
  ·(refine aa (h1 ..) ?_;refine aa (h2 ..) ?_);simp;exact BR hl
  ·have ih:=ih (λy hy=>h y (cI _ hy)) ⟨x,hx,h1,h2⟩
   by_cases hp:p a=ag
   ·(refine aa (hp ..) ?_;refine aa (h a ca hp ..) ?_);simp;exact BU ih
   ·rw[FD]at hp
    refine aa (hp ..) ?_;cases q a<;>simp<;>(first|exact BU ih|exact nY ih)
theorem aef{x z:Option Nat}(hx:fW x)(h:cR x z≠x):rank (cR x z)<rank x:=by
 cases x with
 |none=>
  cases z with
  |none=>exact absurd rfl h
  |some b=>
   refine(?_:(bw 12).countP (λk=>b.testBit k)<13);have:(bw 12).countP (λk=>b.testBit k)<=(bw 12).length:=FM;rw[eZ]at this;exact Tv this
 |some a=>
  cases z with
  |none=>exact absurd rfl h
  |some b=>
   have ha:=hx a rfl;refine I5 (λk U hk=>?_) ?_
   ·rw[sy,mM]at hk;exact hk.1
   ·refine uc λhc=>h ?_
    refine(?_:ae (a&&&b)=ae a)
    congr 1
    refine AN λk=>?_;by_cases hk:k<12
    ·rewrite[sy]
     cases e1:a.testBit k with
     |false=>rfl
     |true=>
      cases e2:b.testBit k with
      |true=>rfl
      |false=>exact absurd ⟨k,er.mpr hk,e1,by(rewrite[sy];refine aa (e1 ..) ?_;refine aa (e2 ..) ?_);rfl⟩ hc
    ·have h1:a.testBit k=aq:=xn (iP ha (show 4096<=2^k from by
      have:2^12<=2^k:=AS (by decide) (HS hk);exact this))
     (rewrite[sy];refine aa (h1 ..) ?_);rfl
noncomputable def total(V:List (Nat×Option Nat)):Nat:=((bw 16).map λr=>rank (bM V r)).sum
theorem afQ(V:List (Nat×Option Nat)):total V<=208:=by
 unfold total;have:∀l:List Nat,(l.map λr=>rank (bM V r)).sum<=13*l.length:=by
  intro l;induction l with
  |nil=>exact bj _
  |cons a l ih=>(refine aa (bB ..) ?_;refine aa (qE ..) ?_;refine aa (dX ..) ?_);have:=aee (bM V a);exact Tw ih this
 have:=this (bw 16);rw[eZ]at this;exact Tx this
theorem sb(V:List (Nat×Option Nat))(c r:Nat)(x:Option Nat):bM (dput V c x) r=if r=c then x else bM V r:=by
 unfold bM;rewrite[je];split<;>rfl
theorem Nl{g:Nat->Nat}:∀{l:List Nat},(∀x∈l,g x<=f x)->(∃x∈l,g x<f x)->(l.map g).sum<(l.map f).sum
 |[],_,⟨x,hx,_⟩=>by cases hx
 |a::l,h,⟨x,hx,h1⟩=>by
  refine aa (bB ..) ?_;refine aa (bB ..) ?_;refine aa (qE ..) ?_;refine aa (qE ..) ?_
  have ha:=h a ca;have hl:(l.map g).sum<=(l.map f).sum:=by
   have h':∀y∈l,g y<=f y:=λy hy=>h y (cI a hy);clear h ha h1 hx x;induction l with
   |nil=>exact bj _
   |cons b l ih=>
    refine aa (bB ..) ?_;refine aa (bB ..) ?_;refine aa (qE ..) ?_;refine aa (qE ..) ?_
    have:=h' b ca
    have:=ih λy hy=>h' y (cI _ hy);exact G9 (by assumption) this
  rcases cH.mp hx with rfl|hx
  ·exact Tz h1 hl
  ·have:=Nl (λy hy=>h y (cI _ hy)) ⟨x,hx,h1⟩
   exact TA ha this
set_option tactic.hygienic true in
theorem afR{x:Option Nat}(hc:c<16)(h:rank x<rank (bM V c)):total (dput V c x)<total V:=by
 unfold total;refine Nl (λr _=>?_) ⟨c,er.mpr hc,?_⟩
 ·rewrite[sb];split
  ·rename_i e;subst e;exact xU h
  ·exact bj _
 ·(rewrite[sb];refine aa (if_pos rfl ..) ?_);exact h
structure gB(ops:List (Str×List Nat))(f:Nat->Nat)(V:List (Nat×Option Nat)):Prop where
 nd:(V.map (·.1)).Nodup
 lt:∀c∈V.map (·.1),c<ops.length
 up:∀c k,lG ops f c k->kb (bM V c) k=ag
 b:∀c,fW (bM V c)
theorem gB.len(h:gB ops f V)(cm:ops.length<=16):V.length<=16:=by
 have h1:(V.map (·.1))⊆bw ops.length:=λc hc=>er.mpr (h.lt c hc)
 have:=h.nd.length_le_of_subset h1;rw[eZ,bp]at this;exact x8 cm this
theorem gB.nil:gB ops f []:=⟨.nil,λc hc=>by simp at hc,λc k U=>rfl,λc b hb=>by exact ns hb⟩
theorem CE{x:Option Nat}:(dput V c x).map (·.1)=if c∈V.map (·.1)then V.map (·.1)else V.map (·.1)++[c]:=by
 unfold dput;have e:(V.any λx=>decide (x.1=c))=decide (c∈V.map (·.1)):=by
  (rewrite[ub];rewrite[mN];refine aa (decide_eq_true_eq ..) ?_;rewrite[bH])
  constructor
  ·(intro aj;refine ay aj ?_;clear aj;intro y hy h);exact⟨y,hy,of_decide_eq_true h⟩
  ·(intro aj;refine ay aj ?_;clear aj;intro y hy h);exact⟨y,hy,decide_eq_true h⟩
 refine aa (e ..) ?_;by_cases h:c∈V.map (·.1)
 ·(refine aa (if_pos (decide_eq_true h) ..) ?_;refine aa (if_pos h ..) ?_;refine aa (cB ..) ?_)
  refine iO λy U=>?_;refine(?_:(if y.1=c then(y.1,x)else y).1=y.1);split<;>rfl
 ·(refine aa (if_neg (by simpa using h) ..) ?_;refine aa (if_neg h ..) ?_;refine aa (iN ..) ?_);rfl
set_option tactic.hygienic true in
theorem gB.put(h:gB ops f V){x:Option Nat}(hc:c<ops.length)(hx:fW x)(hu:∀k,lG ops f c k->kb x k=ag):gB ops f (dput V c x) where
 nd:=by
  refine aa (CE ..) ?_;split
  ·exact h.nd
  ·rename_i hn
   rewrite[l7];refine⟨h.nd,by exact qD _ _,λa ha b hb e=>?_⟩;simp at hb;subst hb e;exact hn ha
 lt:=λd hd=>by
  rw[CE]at hd;split at hd
  ·exact h.lt d hd
  ·rcases d8.mp hd with hd|hd
   ·exact h.lt d hd
   ·simp at hd;refine aa (hd ..) ?_;exact hc
 up:=λd k hk=>by
  rewrite[sb];split
  ·rename_i e;subst e;exact hu k hk
  ·exact h.up d k hk
 b:=λd=>by
  rewrite[sb];split
  ·exact hx
  ·exact h.b d
theorem gB.grow{wA:List (Str×List Nat)}{g:Nat->Nat}(h:gB ops f V)(hd:Down ops)(hp:∀(m:Nat) nd,ops[m]? =ae nd->wA[m]? =ae nd)(Dh:∀a b,a<ops.length->b<ops.length->f a=f b->g a=g b):gB wA g V where
 nd:=h.nd
 lt:=λc hc=>by
  have hl:=h.lt c hc;have h1:ops[c]? =ae ops[c]:=bV hl;exact(bJ.mp (hp c _ h1)).1
 up:=λc k hk=>by
  cases hv:bc V c with
  |none=>unfold bM;refine aa (hv ..) ?_;rfl
  |some x=>
   have hc:c<ops.length:=by
    refine h.lt c ?_;unfold bc at hv;rw[i9]at hv;refine ay hv ?_;clear hv;intro y h1 h2
    have:=FR h1;exact bH.mpr ⟨y,FW h1,of_decide_eq_true this⟩
   exact h.up c k λb hb=>hk b (hb.mono hd hp Dh hc)
 b:=h.b
theorem V9{up:List Nat}(hf:gc up)(hl:ops.length=up.length)(h:gB ops (root up) V):gB ops (root up) (sW up V)/\∀c∈(sW up V).map (·.1),up.getD c 0=c:=by
 unfold sW;have hk:∀c∈dK (V.map (·.1)),c<ops.length:=λc hc=>h.lt c ((jS _).mem_iff.mp hc);generalize dK (V.map (·.1))=cs at*;have key:∀(cs:List Nat) (D:List (Nat×Option Nat)),(∀c∈cs,c<ops.length)->gB ops (root up) D->(∀c∈D.map (·.1),up.getD c 0=c)->gB ops (root up) (cs.foldl (pD up V) D)/\∀c∈(cs.foldl (pD up V) D).map (·.1),up.getD c 0=c:=by
  intro cs;induction cs with
  |nil=>intro D _ h1 h2;exact⟨h1,h2⟩
  |cons c cs ih=>
   intro D y0 hD JS
   have hc:=y0 c ca;refine aa (lx ..) ?_;refine ih _ (λx hx=>y0 x (cI _ hx)) ?_ ?_
   ·unfold pD
    refine hD.put (ie hl (fK hf (show c<up.length by exact eE hl hc))) (Lf (hD.b _) (h.b _)) λk hk=>?_
    (rewrite[DO];refine aa (hD.up _ k hk ..) ?_;refine aa (h.up c k (hk.pH (wD hf (eE hl hc))) ..) ?_)
    rfl
   ·intro d hd
    unfold pD at hd;rw[CE]at hd;split at hd
    ·exact JS d hd
    ·rcases d8.mp hd with hd|hd
     ·exact JS d hd
     ·simp at hd;refine aa (hd ..) ?_;exact lh hf (eE hl hc)
 exact key cs [] hk gB.nil (λc hc=>by simp at hc)
end
section
theorem Inv.down{E:List Nat}(I:Inv σ ps E):Down σ.ops:=λm nd h k hk=>(I.dz m nd h).1 k hk
theorem IT(up:List Nat)(V:List (Nat×Option Nat))(nd:Str×List Nat):ee (canon up nd).1 ((canon up nd).2.map (bM V))=ee nd.1 (nd.2.map λc=>bM V (root up c)):=by
 unfold canon;refine aa (cB ..) ?_;rfl
theorem Ah(V:List (Nat×Option Nat)):gZ V= λf nd=>cR f (ee nd.1 (nd.2.map (bM V))):=rfl
structure KS(σ:St)(V:List (Nat×Option Nat))(row:List Nat)(du:Nat)(wt:List Nat):Prop where
 sp:du<=row.length
 nd:(row.drop du).Nodup
 rt:∀x∈row,x<σ.up.length/\σ.up.getD x 0=x
 wn:wt.Nodup
 wm:∀x,x∈wt↔x∈row.drop du
 vo:gB σ.ops (root σ.up) V
 st:∀n,n<σ.ops.length->root σ.up n∉wt->uK σ.ops (root σ.up) (bM V) (root σ.up n)
 rl:row.length+16*total V<=3400
noncomputable def rL(V:List (Nat×Option Nat))(row:List Nat)(du:Nat):Nat:=17*total V+(row.length - du)
noncomputable def eY(wt:List Nat)(c:Nat):List Nat:=wt.filter λx=>decide (x≠c)
theorem zQ{x:Nat}:x∈eY wt c↔x∈wt/\x≠c:=by simp[eY]
def G1(σ:St)(c:Nat)(ys:List (Str×List Nat)):Prop:=∀y,y∈ys↔∃(n:Nat) (nd:Str×List Nat),σ.ops[n]? =ae nd/\root σ.up n=c/\y=canon σ.up nd
section
variable{du:Nat}{ys:List (Str×List Nat)}(I:Inv σ ps [])(aZ:σ.ops.length=σ.up.length)(K:KS σ V row du wt)(hc:row[du]? =ae c)(hy:G1 σ c ys)
include I aZ K hc hy
theorem Lq:c<σ.up.length/\σ.up.getD c 0=c/\c∈wt/\root σ.up c=c:=by
 have h1:=K.rt c (eD hc);refine⟨h1.1,h1.2,(K.wm c).mpr ?_,lb h1.2⟩;refine aa (qz ((bJ.mp hc).1) ..) ?_;refine aa (((bJ.mp hc).2) ..) ?_;exact ca
theorem Lr:fW (ys.foldl (gZ V) (bM V c)):=by
 rewrite[Ah];refine fold_lt (λnd:Str×List Nat=>ee nd.1 (nd.2.map (bM V))) ys _ (K.vo.b c) λy KU=>ado λx hx=>?_;refine ay (bH.mp hx) ?_;rintro k aj rfl;exact K.vo.b k
theorem ab5(k:Nat)(hk:lG σ.ops (root σ.up) c k):kb (ys.foldl (gZ V) (bM V c)) k=ag:=by
 refine mJ (Lq I aZ K hc hy) ?_;intro c1 c2 c3 c4;rewrite[Ah];refine YH (λnd:Str×List Nat=>ee nd.1 (nd.2.map (bM V))) k ys _ (K.vo.up c k hk) λy KU=>?_;refine kC ((hy y).mp KU) ?_;rintro m nd h1 h2 rfl;refine(?_:kb (ee (canon σ.up nd).1 ((canon σ.up nd).2.map (bM V))) k=ag);rewrite[IT];have hm:m<σ.up.length:=by refine aQ (aZ ..) ?_;exact(bJ.mp h1).1
 refine ads (f:=root σ.up) h1 (λx hx j hj=>?_) (hk.pH (c4.trans h2.symm));exact K.vo.up _ j (hj.pH (wD I.fo (I.iG hm h1 hx)).symm)
theorem Lp(h1:σ.ops[m]? =ae nd)(h2:root σ.up m=c):cR (ys.foldl (gZ V) (bM V c)) (ee nd.1 (nd.2.map λx=>bM V (root σ.up x)))=ys.foldl (gZ V) (bM V c):=by
 (rewrite[<-IT];rewrite[Ah])
 exact YG (λnd:Str×List Nat=>ee nd.1 (nd.2.map (bM V))) ys _ (canon σ.up nd) ((hy _).mpr ⟨m,nd,h1,h2,rfl⟩)
theorem DR:row.drop du=c::row.drop (du+1):=by
 refine aa (qz ((bJ.mp hc).1) ..) ?_;refine aa (((bJ.mp hc).2) ..) ?_;rfl
theorem Ls(x:Nat):x∈eY wt c↔x∈row.drop (du+1):=by
 have hd:=DR I aZ K hc hy
 have hn:=K.nd;rw[hd,lz]at hn
 (rewrite[zQ];rewrite[K.wm];refine aa (hd ..) ?_;rewrite[cH])
 constructor
 ·(intro aj;rcases aj with⟨h1|h1,h2⟩)
  ·exact absurd h1 h2
  ·exact h1
 ·intro h
  exact⟨.inr h,λe=>hn.1 (e▸h)⟩
theorem ab7(he:ys.foldl (gZ V) (bM V c)=bM V c):KS σ V row (du+1) (eY wt c)/\rL V row (du+1)<rL V row du:=by
 have hl:=(bJ.mp hc).1
 have hn:=K.nd;rw[(DR I aZ K hc hy),lz]at hn;refine⟨⟨hl,hn.2,K.rt,K.wn.filter _,Ls I aZ K hc hy,K.vo,λn lL cW=>?_,K.rl⟩,by unfold rL;exact TB hl⟩;by_cases e:root σ.up n=c
 ·intro m nd h1 h2
  rw[e]at h2⊢
  have:=Lp I aZ K hc hy h1 h2;rw[he]at this;exact this
 ·exact K.st n lL λhm=>cW (zQ.mpr ⟨hm,e⟩)
theorem ab6(he:ys.foldl (gZ V) (bM V c)≠bM V c){ad:List Nat}(kj:∀x∈ad,x<σ.up.length/\σ.up.getD x 0=x)(bv:(eY wt c++ad).Nodup)(vQ:∀u∈us σ c,root σ.up u∈eY wt c++ad):
 KS σ (dput V c (ys.foldl (gZ V) (bM V c))) (row++ad) (du+1) (eY wt c++ad)/\rL (dput V c (ys.foldl (gZ V) (bM V c))) (row++ad) (du+1)<rL V row du:=by
 refine mJ (Lq I aZ K hc hy) ?_;intro c1 c2 c3 c4
 have hl:=(bJ.mp hc).1
 have hd:=DR I aZ K hc hy
 have hw:=Ls I aZ K hc hy
 have hn:=K.nd;rw[hd,lz]at hn
 have hN:=I.n;have aaG:rank (ys.foldl (gZ V) (bM V c))<rank (bM V c):=by
  have hf:ys.foldl (gZ V) (bM V c)=cR (bM V c) (ys.foldl (gZ V) ai):=by
   rewrite[Ah];exact Jw (λnd:Str×List Nat=>ee nd.1 (nd.2.map (bM V))) ys _
  rw[hf]at he⊢;exact aef (K.vo.b c) he
 have KJ:total (dput V c (ys.foldl (gZ V) (bM V c)))<total V:=afR (TC c1 hN) aaG
 have ZQ:=Lr I aZ K hc hy
 have ZU:=ab5 I aZ K hc hy
 have fH:=λm nd=>Lp I aZ K hc hy (m:=m) (nd:=nd);generalize ys.foldl (gZ V) (bM V c)=F at*;have y9:(row++ad).drop (du+1)=row.drop (du+1)++ad:=by
  (refine aa (List.drop_append ..) ?_;refine aa ((show du+1 - row.length=0 by exact TE hl) ..) ?_);rfl
 have Kw:((row++ad).drop (du+1)).Nodup:=by
  refine aa (y9 ..) ?_;rw[l7]at bv⊢;exact⟨hn.2,bv.2.1,λa ha b hb=>bv.2.2 a ((hw a).mpr ha) b hb⟩
 have hlen:((row++ad).drop (du+1)).length<=16:=by
  have gn:(row++ad).drop (du+1)⊆bw σ.up.length:=λx hx=>by
   rw[y9]at hx;rcases d8.mp hx with hx|hx
   ·exact er.mpr (K.rt x (Ot hx)).1
   ·exact er.mpr (kj x hx).1
  have:=Kw.length_le_of_subset gn;rw[eZ]at this;exact x8 hN this
 have tm:ad.length<=16:=by rw[y9,bS]at hlen;exact TF hlen
 have adn:∀(m:Nat) (nd:Str×List Nat),σ.ops[m]? =ae nd->root σ.up m∉eY wt c++ad->∀x∈nd.2,root σ.up x≠c:=λm nd h1 h2 x hx e=>by
  have hm:m<σ.up.length:=by refine aQ (aZ ..) ?_;exact(bJ.mp h1).1
  have:=I.qo m nd x hm h1 hx;rw[e]at this;exact h2 (vQ m this)
 have agi:∀(m:Nat) (nd:Str×List Nat),σ.ops[m]? =ae nd->root σ.up m∉eY wt c++ad->(nd.2.map λx=>bM (dput V c F) (root σ.up x))=nd.2.map λx=>bM V (root σ.up x):=λm nd h1 h2=>by
  refine iO λx hx=>?_
  (rewrite[sb];refine aa (if_neg (adn m nd h1 h2 x hx) ..) ?_;rfl)
 refine⟨⟨?_,Kw,λx hx=>?_,bv,λx=>?_,K.vo.put (ie aZ c1) ZQ ZU,λn lL cW=>?_,?_⟩,?_⟩
 ·refine aa (bS ..) ?_;exact TG hl
 ·rcases d8.mp hx with hx|hx
  ·exact K.rt x hx
  ·exact kj x hx
 ·(refine aa (y9 ..) ?_;rewrite[d8];rewrite[d8];rewrite[hw];rfl)
 ·intro m nd h1 h2
  have h3:root σ.up m∉eY wt c++ad:=by refine aa (h2 ..) ?_;exact cW
  refine aa (agi m nd h1 h3 ..) ?_;by_cases e:root σ.up n=c
  ·rw[e]at h2⊢
   (rewrite[sb];refine aa (if_pos rfl ..) ?_)
   exact fH m nd h1 h2
  ·(rewrite[sb];refine aa (if_neg e ..) ?_)
   refine K.st n lL (λhm=>cW (mP _ (zQ.mpr ⟨hm,e⟩))) m nd h1 h2
 ·have:=K.rl
  refine aa (bS ..) ?_;exact TH KJ tm this
 ·unfold rL
  rw[List.length_drop]at hlen;exact TI KJ hlen
end
end
section
section
variable{X:Fx}(C:eM X){v:List aF}{w:Nat}{T:Nat->List aF}(A:pq T ki an)
theorem YU{x:Nat}:(av fd σ tl v t).get (.t x)=t[x]? :=rfl
theorem tL:(av fd σ tl v t).next .t=.t t.length:=rfl
theorem tS{o:aF}:(av fd σ tl v t).push o .t=av fd σ tl v (t++[o]):=rfl
theorem rY{x:Nat}{o:aF}:(av fd σ tl v t).set o (.t x)=av fd σ tl v (t.set x o):=rfl
theorem Wl{n:Nat}{f:dn}:fQ X n .listOf (ae f) [.lst xs] H Q=eb (ae f) xs H Q:=rfl
noncomputable def kT(t:List aF)(row wt:List Nat)(ex:List aF):List aF:=t++.list (nats row)::.aH (dT wt)::ex
inductive SW(fd:aF)(σ:St)(v t:List aF)(T:Nat->List aF)(ki:Nat)(k:Nat)(ρ:aJ)(H:HP):Prop
 |mk (Vc:List (Nat×Option Nat)) (row:List Nat) (du:Nat) (wt:List Nat) (ex:List aF) (q4 q5 q6 q7:Option PV) (hk:k=rL Vc row du) (K:KS σ Vc row du wt)
   (d0:ρ=[ae (.ak (.s ki)),ae (.ak (.t t.length)),ae (.ak (.t (t.length+1))),ae (nat du),q4,q5,q6,q7,ai]) (hH:H=av fd σ (T v.length) (v++[.aH (cy Vc)]) (kT t row wt ex))
inductive SJ(fd:aF)(σ:St)(v t:List aF)(T:Nat->List aF)(ki:Nat)(Vc:List (Nat×Option Nat))(row wt:List Nat)(du c:Nat)(F:Option Nat)(zs:List Nat)(mf:List aF)(i:Nat)(ρ:aJ)(H':HP):Prop
 |mk (ad:List Nat) (q6 q7:Option PV) (h1:∀x∈ad,x<σ.up.length/\σ.up.getD x 0=x) (h2:(eY wt c++ad).Nodup) (h3:∀u∈zs.take i,root σ.up u∈eY wt c++ad) (h4:ad.length<=i)
   (d0:ρ=[ae (.ak (.s ki)),ae (.ak (.t t.length)),ae (.ak (.t (t.length+1))),ae (nat (du+1)),ae (nat c),ae (bF F),q6,q7,ai]) (hH:H'=av fd σ (T v.length) (v++[.aH (cy (dput Vc c F))]) (kT t (row++ad) (eY wt c++ad) mf))
theorem abS:(kT t row wt ex)[t.length]? =ae (.list (nats row)):=by simp[kT]
theorem abT:(kT t row wt ex)[t.length+1]? =ae (.aH (dT wt)):=by
 unfold kT;refine aa (sk (gQ) ..) ?_;have:t.length+1 - t.length=1:=by exact x9
 refine aa (this ..) ?_;rfl
theorem abV{MK:List Nat}:(kT t row wt ex).set t.length (.list (nats MK))=kT t MK wt ex:=by
 unfold kT
 (refine aa (xc _ _ (bj _) ..) ?_;rewrite[AT]);rfl
theorem Lj{NF:List Nat}:(kT t row wt ex).set (t.length+1) (.aH (dT NF))=kT t row NF ex:=by
 unfold kT;refine aa (xc _ _ (gQ) ..) ?_;have:t.length+1 - t.length=1:=by exact x9
 refine aa (this ..) ?_;rfl
theorem abU{ne:List aF}:kT t row wt ex++ne=kT t row wt (ex++ne):=by simp[kT]
theorem I9{ks:List Nat}:bc (dT ks) (.i (k:Int))=if k∈ks then ae (.bool ag)else ai:=by
 unfold dT;induction ks with
 |nil=>rfl
 |cons a ks ih=>
  refine aa (bB ..) ?_;refine aa (lH ..) ?_;refine aa (ih ..) ?_;by_cases h:a=k
  ·subst h;(refine aa (if_pos rfl ..) ?_;refine aa (if_pos ca ..) ?_;rfl)
  ·refine aa (if_neg (λe=>h (mD e)) ..) ?_
   by_cases h2:k∈ks
   ·(refine aa (if_pos h2 ..) ?_;refine aa (if_pos (cI _ h2) ..) ?_;rfl)
   ·(refine aa (if_neg h2 ..) ?_;refine aa (if_neg (by simp[jz h,h2]) ..) ?_;rfl)
theorem Xs{ks:List Nat}:fg (dT ks) (.i (k:Int))=dT (eY ks k):=by
 unfold dT eY fg;refine aa (uh ..) ?_
 congr 1
 refine FO λx U=>?_;refine(?_:decide (Atom.i (x:Int)≠.i (k:Int))=decide (x≠k));have e:(Atom.i (x:Int)≠.i (k:Int))=(x≠k):=propext ⟨λh e=>h (by(refine aa (e ..) ?_;rfl)),λh e=>h (mD e)⟩;simp only[e]
theorem Ma{ks:List Nat}{K:Bool->Prop}(h:H.get l=ae (.aH (dT ks))):cK .NotIn (nat k) (.ak l) H K=K (!decide (k∈ks)):=by
 simp only[Cv,I0,abx h,IB,aw,I9];by_cases h2:k∈ks<;>simp[h2]
theorem Ap(x:Option Nat):(bF x).clean=ag:=by
 cases x with
 |none=>rfl
 |some b=>exact IV b
theorem af8(x:Option Nat):(bF x).rm<=60:=by
 cases x with
 |none=>exact cJ _
 |some b=>show PV.m9 (nats _)+1<=60;rewrite[CA];omega
theorem adi(ha:a<4096)(hb:b<4096)(h:dq a=dq b):a=b:=by
 refine AN λk=>?_;by_cases hk:k<12
 ·have:k∈dq a↔k∈dq b:=by(refine aa (h ..) ?_;rfl)
  rw[rP,rP]at this;cases e1:a.testBit k<;>cases e2:b.testBit k<;>simp_all
 ·have h2:4096<=2^k:=by
   have:2^12<=2^k:=AS (by decide) (HS hk);exact this
  refine aa (xn (iP ha h2) ..) ?_;refine aa (xn (iP hb h2) ..) ?_;rfl
theorem af9{x:Option Nat}(hx:fW x)(hy:fW y)(h:bF x=bF y):x=y:=by
 cases x with
 |none=>cases y with
  |none=>rfl
  |some b=>exact absurd h (by simp[bF,gK])
 |some a=>cases y with
  |none=>exact absurd h (by simp[bF,gK])
  |some b=>
   have h':gK a=gK b:=h;unfold gK at h';injection h' with h';refine aa (adi (hx a rfl) (hy b rfl) (EP.mp h') ..) ?_;rfl
theorem u5{x:Option Nat}(hx:fW x)(hy:fW y){K:Bool->Prop}:cK .NotEq (bF x) (bF y) H K=K (!decide (x=y)):=by
 have e:(bF x).eqv (bF y)=decide (x=y):=by
  have:=PV.iC (bF x) (bF y) (Ap x) (Ap y);by_cases h:x=y
  ·refine aa (decide_eq_true h ..) ?_;exact this.mpr (by(refine aa (h ..) ?_;rfl))
  ·refine aa (decide_eq_false h ..) ?_
   cases e:(bF x).eqv (bF y)with
   |false=>rfl
   |true=>exact absurd (af9 hx hy (this.mp e)) h
 refine aQ (e ..) ?_;exact propext ⟨λx=>x.2,λh=>⟨jd (Ap _) (Ap _) (.inl (af8 _)),h⟩⟩
theorem Xg{ek ev:aJ->HP->(PV->HP->Prop)->Prop}{Q:aJ->aF->HP->Prop}:∀{xs acc:List Nat},(∀ρ H Q,Q ag H->gt ρ H Q)->(∀x∈xs,∀Q,Q (nat x) H->ek (aR ρ i (nat x)) H Q)->(∀x∈xs,∀Q,Q (.bool ag) H->ev (aR ρ i (nat x)) H Q)->acc.length+xs.length<=aI->dj H->(acc++xs).Nodup->∀aU:aJ,(∀y,aR aU i y=aR ρ i y)->(∀cG,Q cG (.aH (dT (acc++xs))) H)->cw i gt (jN ek ev) dj (nats xs) aU (.aH (dT acc)) H Q:=by
 intro xs;induction xs with
 |nil=>
  intro acc ht hk hv hz hc hn aU d0 hq;refine(?_:cw i gt (jN ek ev) dj [] aU (.aH (dT acc)) H Q);rewrite[cw];simpa using hq aU
 |cons x xs ih=>
  intro acc ht hk hv hz hc hn aU d0 hq;refine(?_:cw i gt (jN ek ev) dj (nat x::nats xs) aU (.aH (dT acc)) H Q)
  (rewrite[cw];rewrite[d0])
  refine ht _ _ _ ?_;refine aa (if_pos rfl ..) ?_;have abf:x∉acc:=λhx=>(l7.mp hn).2.2 x hx x ca rfl;refine⟨by unfold dT;simp at hz⊢;exact BA hz,hk x ca _ ?_⟩;simp only[nat,fO,aw];refine hv x ca _ ⟨hc,?_⟩;refine aa (yK ..) ?_;refine aa (if_neg abf ..) ?_;refine ih ht (λy hy=>hk y (cI _ hy)) (λy hy=>hv y (cI _ hy)) (by simp at hz⊢;exact xT hz) hc (by simpa using hn) _ (λy=>E8) λcG=>?_;simpa using(hq cG)
include C A
theorem Lk(I:Inv σ ps [])(aZ:σ.ops.length=σ.up.length)(ji:∀nd∈σ.ops,nd.1∈cP)(hv:v[w]? =ae (.aH (cy V)))(hV:gB σ.ops (root σ.up) V):
 bC X 7 .oo [.ak (.s ki)] (av fd σ (T w) v t) (λp H'=>p=.none/\∃V' ex,H'=av fd σ (T v.length) (v++[.aH (cy V')]) (t++ex)/\gB σ.ops (root σ.up) V'/\∀n,n<σ.ops.length->uK σ.ops (root σ.up) (bM V') (root σ.up n)):=by
 have hL:aI=1000000:=rfl
 have hN:=I.n;refine eu (M:=Ed) C.O (C.ck .oo (λh=>Fn.noConfusion h)) rfl λQz bu=>?_
 (with_reducible refine aD ?_;simp only[Ed,ce,bB,ci,cu,cA,bX,aE,fq,de,aC,aT,aG,gz,aw])
 refine⟨A.nr rfl,((Wa C A I hv (λc hc=>by have:=hV.lt c hc;exact eE aZ this) (hV.len (HT aZ hN))).le (by omega)).dt ?_⟩;refine aK (V9 I.fo aZ hV) ?_;intro hB agQ;generalize hV0:sW σ.up V=V0 at*;refine⟨rfl,?_⟩
 (with_reducible refine aD ?_;simp only[aE,bE,bZ,aR,bh,cM,aC,a0,aT,de,ch,aG,gz,aw,A.heap])
 refine⟨fX rfl,((W1 C (gR hL hN)).le (by omega)).dt ?_⟩;have Dx:(iK σ.up).length<=16:=by
  have:(iK σ.up).length<=(bw σ.up.length).length:=um _ _;rw[eZ]at this;exact x8 hN this
 simp only[Wl,jP,tL,tS];refine⟨by refine aa (bQ ..) ?_;exact gR hL Dx,?_⟩
 (with_reducible refine aD ?_;simp only[aE,Aq,aR,bh,agz,gs,gz,aG,aC,lu,aw])
 refine⟨by trivial,?_⟩;have hit:itemsOf (av fd σ (T v.length) (v++[.aH (cy V0)]) (t++[.list (nats (iK σ.up))])) (.ak (.t t.length))=ae (nats (iK σ.up)):=by
  exact congrArg tF (YU.trans nL)
 refine aa (hit ..) ?_;rewrite[aw];refine aa ((show(aF.aH [])=.aH (dT [])from rfl) ..) ?_;refine Xg (acc:=[]) (xs:=iK σ.up) (λρ H Q h=>h) (λx hx Q hq=>?_) (λx hx Q hq=>?_) (by simp;exact gR hL Dx) ?_ (by exact Fo σ.up) _ (λy=>rfl) λcG=>?_
 ·simp only[aR,bh,gs,gz,aw]
  exact hq
 ·exact hq
 ·rfl
 have aax:∀{row wt:List Nat},(t++[.list (nats row)])++[.aH (dT wt)]=kT t row wt []:=by intros;simp[kT]
 simp only[bX,ku,tL,tS,aax];have kW:(t++[aF.list (nats (iK σ.up))]).length=t.length+1:=by exact bS
 refine aa (kW ..) ?_
 (with_reducible refine aD ?_;simp only[aE,bE,bZ,aR,bh,cT,aC])
 (with_reducible refine aD ?_;simp only[aE,be,wQ,cc,cM,aC,a0,aT,aG])
 have aaY:∀x∈iK σ.up,x<σ.up.length/\σ.up.getD x 0=x:=λx hx=>LY.mp hx;have K0:KS σ V0 (iK σ.up) 0 (iK σ.up):=⟨cJ _,by exact Fo σ.up,aaY,Fo σ.up,λx=>by rfl,hB,λn hn ik=>absurd (LY.mpr ⟨fK I.fo (eE aZ hn),lh I.fo (eE aZ hn)⟩) ik,by have:=afQ V0;exact TJ Dx this⟩
 refine⟨SW fd σ v t T ki,
  ⟨_,V0,iK σ.up,0,iK σ.up,[],ai,ai,ai,ai,rfl,K0,rfl,rfl⟩,?_⟩
 (intro k;intro ρ;intro H;intro aj;rcases aj with⟨Vc,row,du,wt,ex,q4,q5,q6,q7,rfl,K,rfl,rfl⟩)
 have Du:=K.rl;have yN:∀{v':List aF} {row wt:List Nat} {ex:List aF},(av fd σ (T v.length) v' (kT t row wt ex)).get (.t t.length)=ae (.list (nats row)):=abS;have yO:∀{v':List aF} {row wt:List Nat} {ex:List aF},(av fd σ (T v.length) v' (kT t row wt ex)).get (.t (t.length+1))=ae (.aH (dT wt)):=abT;simp only[gs,gz,aw,jO yN,bQ,s0];refine⟨HU hL Du,?_⟩;by_cases bo:du<row.length
 ·refine aa (if_pos (by simpa using bo) ..) ?_
  (with_reducible refine aD ?_;simp only[aE,Nz,eQ,aC,Mk,a0,aT,eP,cT,aG,gs,gz,aw,dM])
  simp only[zx yN bo (HU hL Du),on,sX];refine aM (⟨row[du],bV bo⟩:∃c,row[du]? =ae c) ?_;intro c hc;have Zt:row.getD du 0=c:=by(refine aa (da ..) ?_;refine aa (hc ..) ?_);rfl
  refine aa (Zt ..) ?_;refine⟨by exact bR rfl,rfl,?_⟩;simp only[sr,OB,bX,cA,oE,aR,bh,oF]
  (with_reducible refine aD ?_;simp only[aE,fq,fD,aC,a0,aT,aG,gs,gz,aw])
  have Da:=K.rt c (eD hc);have Zy:c∈wt:=by
   (rewrite[K.wm];refine aa (qz bo ..) ?_;refine aa (((bJ.mp hc).2) ..) ?_)
   exact ca
  have vC:root σ.up c=c:=lb Da.2;refine⟨E6 (.inr rfl) yO,?_⟩;have aaB:io .jI (.ak (.t (t.length+1))) [nat c] (av fd σ (T v.length) (v++[.aH (cy Vc)]) (kT t row wt ex))= λQ=>Q (.bool ag) (av fd σ (T v.length) (v++[.aH (cy Vc)]) (kT t row (eY wt c) ex)):=by
   funext Q
   refine aa (LG yO ..) ?_;refine aa (I9 ..) ?_;refine aa (if_pos Zy ..) ?_;rewrite[aw];refine aa (Xs ..) ?_;refine aa (rY ..) ?_;refine aa (Lj ..) ?_;rfl
  refine aa (aaB ..) ?_;refine⟨rfl,?_⟩
  (with_reducible refine aD ?_;simp only[aE,bE,bZ,aR,bh,de,aC,a0,aT,aG,gs,gz,aw])
  refine⟨A.nr rfl,((aei C A I aZ ji Da.1 (V:=Vc) (by exact nL) (λr b h=>K.vo.b r b h)).le (by omega)).mono ?_⟩
  (intro p;intro H';intro aj;refine aK aj ?_;clear aj;intro aB aS;refine ay aB ?_;clear aB;rintro ys no rfl;refine aM aS ?_;clear aS;rintro ne rfl)
  have hY:G1 σ c ys:=λy=>by(rewrite[no y];refine aa (vC ..) ?_;rfl)
  refine aa (abU ..) ?_;generalize ex++ne=mf
  (with_reducible refine aD ?_;simp only[aE,be,w_ite,cc,ef,fD,aC,a0,aT,aG,gs,gz,aw,ch,A.vals])
  have gv:(v++[aF.aH (cy Vc)])[v.length]? =ae (.aH (cy Vc)):=by exact nL
  refine⟨wF (by exact .inl rfl) gv,wP gv ?_⟩;refine aa (u5 (Lr I aZ K hc hY) (K.vo.b c) ..) ?_;by_cases he:ys.foldl (gZ Vc) (bM Vc c)=bM Vc c
  ·refine aa (if_neg (by simp[he]) ..) ?_
   refine aK (ab7 I aZ K hc hY he) ?_;intro K' dQ;exact⟨_,dQ,Vc,row,du+1,eY wt c,mf,_,_,_,_,rfl,K',rfl,rfl⟩
  ·refine aa (if_pos (by simp[he]) ..) ?_
   (with_reducible refine aD ?_;simp only[aE,bE,nE,aG,gs,gz,aC,aw,ch,A.vals])
   have Dt:∀{K:HP->Prop},jo (.ak (.v v.length)) (nat c) (bF (ys.foldl (gZ Vc) (bM Vc c))) (av fd σ (T v.length) (v++[.aH (cy Vc)]) (kT t row (eY wt c) mf)) K=(Vc.length<aI/\K (av fd σ (T v.length) (v++[.aH (cy (dput Vc c (ys.foldl (gZ Vc) (bM Vc c))))]) (kT t row (eY wt c) mf))):=by
    intro K;refine aa (wG (show(av fd σ (T v.length) (v++[.aH (cy Vc)]) (kT t row (eY wt c) mf)).get (.v v.length)=ae (.aH (cy Vc))from gv) ..) ?_;rewrite[Je];refine aa (MV ..) ?_;unfold cy jk
    (rewrite[bp];rfl)
   refine aa (Dt ..) ?_;refine⟨by have:=K.vo.len (HT aZ hN);exact TM hL this,?_⟩
   (with_reducible refine aD ?_;simp only[aE,be,jr,de,aC,a0,aT,aG,gs,gz,aw,ch,A.heap])
   refine⟨fX rfl,((af6 C I Da.1).le (by omega)).mono ?_⟩
   (intro p;intro H';intro aj;refine aK aj ?_;clear aj;intro aB aS;refine cb aB ?_;clear aB;rintro zs abj zu rfl;rcases aS with rfl)
   rw[vC]at zu;simp only[fV,fU,jj,aw];generalize hF:ys.foldl (gZ Vc) (bM Vc c)=F at*;refine iZ (I:=SJ fd σ v t T ki Vc row wt du c F zs mf) (R:=λU U U=>False)
      ⟨[],q6,q7,(by intro x hx;cases hx),(by rewrite[kI];exact K.wn.filter _),(by intro u hu;simp at hu),bj _,rfl,(by(rewrite[kI];rewrite[kI];rfl))⟩ ?_ (λi ρ H h=>trivial) ?_ (λp ρ H h=>h.elim)
   ·(intro i;intro x;intro ρ;intro H1;intro Q';intro hx;intro aj;rcases aj with⟨ad,q6,q7,yX,yY,vu,vy,rfl,rfl⟩;intro cW;intro hr)
    refine ay (nx hx) ?_;rintro u hu rfl
    have aa4:=(zu u).mp (eD hu);have Dy:u<σ.up.length:=I.mI _ _ aa4;have fT:zs.take (i+1)=zs.take i++[u]:=by(refine aa (kK ..) ?_;refine aa (hu ..) ?_);rfl
    have iD:i<zs.length:=(bJ.mp hu).1;have KW:zs.length<=16:=by
     have gn:zs⊆bw σ.up.length:=λy hy=>er.mpr (I.mI _ _ ((zu y).mp hy))
     have:=abj.length_le_of_subset gn;rw[eZ]at this;exact x8 hN this
    (simp only[bZ,aR,bh];with_reducible refine aD ?_;simp only[aE,bE,bZ,aR,bh,de,aC,a0,aT,aG,gs,gz,aw,ch,A.heap])
    refine⟨fX rfl,((nf C.toOk I.fo Dy (gR hL hN)).le (by omega)).dt ?_⟩
    (with_reducible refine aD ?_;simp only[aE,be,w_ite,cc,ef,aG,gs,gz,aC,aw])
    refine aa (Ma yO ..) ?_;by_cases jL:root σ.up u∈eY wt c++ad
    ·refine aa (if_neg (by refine aa ((decide_eq_true jL) ..) ?_;simp) ..) ?_
     refine cW _ _ ⟨ad,_,_,yX,yY,λz hz=>?_,x7 vy,rfl,rfl⟩;rw[fT]at hz;rcases d8.mp hz with hz|hz
     ·exact vu z hz
     ·simp at hz;refine aa (hz ..) ?_;exact jL
    ·refine aa (if_pos (by refine aa ((decide_eq_false jL) ..) ?_;rfl) ..) ?_
     have aaE:∀{K:HP->Prop},jo (.ak (.t (t.length+1))) (nat (root σ.up u)) (.bool ag) (av fd σ (T v.length) (v++[.aH (cy (dput Vc c F))]) (kT t (row++ad) (eY wt c++ad) mf)) K=((dT (eY wt c++ad)).length<aI/\K (av fd σ (T v.length) (v++[.aH (cy (dput Vc c F))]) (kT t (row++ad) (eY wt c++ad++[root σ.up u]) mf))):=by
      intro K;refine aa (wG yO ..) ?_;refine aa (rY ..) ?_;refine aa (yK ..) ?_;refine aa (if_neg jL ..) ?_;refine aa (Lj ..) ?_;rfl
     (with_reducible refine aD ?_;simp only[aE,bE,nE,aG,gs,gz,aC,aw,lu])
     refine aa (aaE ..) ?_;have mx:(eY wt c).length<=16:=by
      have gn:eY wt c⊆bw σ.up.length:=λy hy=>er.mpr (K.rt y (Ot ((K.wm y).mp (zQ.mp hy).1))).1;have DC:(eY wt c).Nodup:=K.wn.filter _
      have:=DC.length_le_of_subset gn;rw[eZ]at this;exact dC this hN
     refine⟨by unfold dT;(rewrite[bp];refine aa (bS ..) ?_);exact TN hL vy iD KW mx,?_⟩
     (with_reducible refine aD ?_;simp only[aE,be,fq,fD,aC,a0,aT,aG,gs,gz,aw])
     refine⟨jn (by exact .inl rfl) yN,?_⟩;refine aa (j9 yN ..) ?_;refine aQ (EQ ..) ?_;refine aQ (ow ..) ?_;refine aa (rY ..) ?_;refine aa (abV ..) ?_;refine⟨by(refine aa (bQ ..) ?_;refine aa (bS ..) ?_);exact TO hL Du vy iD KW,rfl,?_⟩;refine cW _ _ ⟨ad++[root σ.up u],_,_,λz hz=>?_,?_,λz hz=>?_,by refine aa (bS ..) ?_;simp;exact B3 vy,rfl,by(rewrite[kH];rewrite[kH];rfl)⟩
     ·rcases d8.mp hz with hz|hz
      ·exact yX z hz
      ·simp at hz;refine aa (hz ..) ?_;exact⟨fK I.fo Dy,lh I.fo Dy⟩
     ·(rewrite[<-kH];rewrite[l7])
      refine⟨yY,by exact qD _ _,λa ha b hb e=>?_⟩;simp at hb;exact jL (hb▸e▸ha)
     ·rw[fT]at hz
      rewrite[<-kH];rcases d8.mp hz with hz|hz
      ·exact mP _ (vu z hz)
      ·simp at hz;refine aa (hz ..) ?_;exact qC _ (eR.mpr rfl)
   ·(intro ρ;intro H1;intro aj;rcases aj with⟨ad,q6,q7,yX,yY,vu,vy,rfl,rfl⟩)
    rw[bQ,kL]at vu;refine aK (ab6 I aZ K hc hY (by refine aa (hF ..) ?_;exact he) yX yY λu hu=>vu u ((zu u).mpr hu)) ?_;intro K' dQ;rw[hF]at K' dQ;exact⟨_,dQ,_,row++ad,du+1,_,mf,_,_,_,_,rfl,K',rfl,rfl⟩
 ·refine aa (if_neg (by simpa using bo) ..) ?_
  have ZN:wt=[]:=by
   have hd:row.drop du=[]:=FN (qY bo);cases wt with
   |nil=>rfl
   |cons x wt=>have:=(K.wm x).mp ca;rw[hd]at this;cases this
  with_reducible refine bu _ _ ?_
  refine⟨rfl,Vc,.list (nats row)::.aH (dT wt)::ex,rfl,K.vo,λn hn=>K.st n hn (by refine aa (ZN ..) ?_;simp)⟩
end
end
section
noncomputable def bA(mk:List Nat)(n:Nat):Nat:=mk.getD n 0
noncomputable def jh(mk:List Nat)(nd:Str×List Nat):Str×List Nat:=(nd.1,nd.2.map (bA mk))
structure j7(ops:List (Str×List Nat))(ps:List (Nat×Nat))(mk:List Nat):Prop where
 len:mk.length=ops.length
 lt:∀x∈mk,x<ops.length
 sound:∀R,j6 ops ps R->∀a b,a<ops.length->b<ops.length->bA mk a=bA mk b->R a b
structure uI(ops:List (Str×List Nat))(ps:List (Nat×Nat))(mk:List Nat):Prop where
 pr:∀p∈ps,bA mk p.1=bA mk p.2
 hd:∀n m a b,ops[n]? =ae a->ops[m]? =ae b->jh mk a=jh mk b->bA mk n=bA mk m
noncomputable def cnt(N:Nat)(mk:List Nat):Nat:=(bw N).countP λx=>decide (x∈mk)
noncomputable def nw(mk:List Nat)(one other:Nat):List Nat:=mk.map λx=>if x=other then one else x
theorem L0{one other n:Nat}(h:n<mk.length):bA (nw mk one other) n=if bA mk n=other then one else bA mk n:=by
 unfold bA nw;refine aa (da ..) ?_;refine aa (dB ..) ?_;refine aa (da ..) ?_;refine aa (bV h ..) ?_;rfl
set_option tactic.hygienic true in
theorem Xd{one other:Nat}(hN:∀x∈mk,x<N)(ho:one∈mk)(ht:other∈mk)(dJ:one≠other):cnt N (nw mk one other)<cnt N mk:=by
 unfold cnt;refine I5 (λx _ hx=>?_) ⟨other,er.mpr (hN _ ht),decide_eq_true ht,decide_eq_false ?_⟩
 ·have k7:=of_decide_eq_true hx
  unfold nw at k7;refine ay (bH.mp k7) ?_;intro y hy e;refine decide_eq_true ?_;split at e
  ·refine aQ (e ..) ?_;exact ho
  ·refine aQ (e ..) ?_;exact hy
 ·intro hm
  unfold nw at hm;refine ay (bH.mp hm) ?_;intro y hy e;split at e
  ·exact dJ e
  ·rename_i h;exact h e
theorem EM{n:Nat}(h:n<mk.length):bA mk n∈mk:=getD_mem h
theorem j7.rep(h:j7 ops ps mk)(ha:a<ops.length)(hb:b<ops.length)(fH:∀R,j6 ops ps R->R a b):j7 ops ps (nw mk (bA mk a) (bA mk b)) where
 len:=by unfold nw;(rewrite[bp];refine aa (h.len ..) ?_;rfl)
 lt:=λx hx=>by
  unfold nw at hx;refine ay (bH.mp hx) ?_;rintro y hy rfl;split
  ·exact h.lt _ (EM (by refine aa (h.len ..) ?_;exact ha))
  ·exact h.lt _ hy
 sound:=λR hR x y hx hy e=>by
  rw[L0 (by refine aa (h.len ..) ?_;exact hx),L0 (by refine aa (h.len ..) ?_;exact hy)]at e
  have JY:=fH R hR;by_cases h1:bA mk x=bA mk b<;>by_cases h2:bA mk y=bA mk b
  ·exact h.sound R hR x y hx hy (h1.trans h2.symm)
  ·rw[if_pos h1,if_neg h2]at e
   exact hR.trans _ _ _ (h.sound R hR x b hx hb h1) (hR.trans _ _ _ (hR.symm _ _ JY) (h.sound R hR a y ha hy e))
  ·rw[if_neg h1,if_pos h2]at e
   exact hR.trans _ _ _ (h.sound R hR x a hx ha e) (hR.trans _ _ _ JY (h.sound R hR b y hb hy h2.symm))
  ·rw[if_neg h1,if_neg h2]at e
   exact h.sound R hR x y hx hy e
theorem j7.start:j7 ops ps (bw ops.length) where
 len:=eZ
 lt:=λx hx=>er.mp hx
 sound:=λR hR a b ha hb e=>by
  have h1:∀n,n<ops.length->bA (bw ops.length) n=n:=λn hn=>by
   unfold bA
   (refine aa (da ..) ?_;refine aa (xb hn ..) ?_);rfl
  rw[h1 a ha,h1 b hb]at e;refine aa (e ..) ?_;exact hR.refl b
theorem j7.head(hd:Down ops)(h:j7 ops ps mk){n:Nat}{a b:Str×List Nat}(ha:ops[n]? =ae a)(hb:ops[m]? =ae b)(e:jh mk a=jh mk b):∀R,j6 ops ps R->R n m:=λR hR=>by
 have CG:(jh mk a).1=(jh mk b).1:=by(refine aa (e ..) ?_;rfl)
 have CH:(jh mk a).2=(jh mk b).2:=by(refine aa (e ..) ?_;rfl)
 have e2:a.2.map (bA mk)=b.2.map (bA mk):=CH;have el:a.2.length=b.2.length:=by have:=congrArg sm e2;simpa using this
 refine hR.cg n m a b ha hb CG el λi hi=>?_
 have h1:=congrArg (λl=>l[i]?) e2;simp only[dB,bV hi,bV (show i<b.2.length by exact eE el hi),mc,ut]at h1;refine aa (((getD_get hi)) ..) ?_;refine aa (((getD_get (eE el hi))) ..) ?_;exact h.sound R hR _ _ (gO (hd n a ha _ (ly hi)) ((bJ.mp ha).1)) (gO (hd m b hb _ (ly (show i<b.2.length by exact eE el hi))) ((bJ.mp hb).1)) h1
theorem acX(I:Inv σ ps [])(aZ:σ.ops.length=σ.up.length)(h:j7 σ.ops ps mk)(hc:uI σ.ops ps mk)(ha:a<σ.ops.length)(hb:b<σ.ops.length):bA mk a=bA mk b↔root σ.up a=root σ.up b:=by
 have dz:∀(n:Nat) nd i,σ.ops[n]? =ae nd->i<nd.2.length->nd.2.getD i 0<σ.ops.length:=λn nd i h1 h2=>gO ((I.dz n nd h1).1 _ (getD_mem h2)) (bJ.mp h1).1;constructor
 ·intro e
  have hR:j6 σ.ops ps (λx y=>x=y\/(x<σ.ops.length/\y<σ.ops.length/\root σ.up x=root σ.up y)):=by
   refine⟨λa=> .inl rfl,λa b h=>?_,λa b c h1 h2=>?_,λp hp=>?_,λn m x y hx hy e1 e2 e3=>?_⟩
   ·rcases h with h|⟨h1,h2,h3⟩
    ·exact .inl h.symm
    ·exact .inr ⟨h2,h1,h3.symm⟩
   ·rcases h1 with rfl|⟨h1,pM,h3⟩
    ·exact h2
    ·rcases h2 with rfl|⟨g1,g2,g3⟩
     ·exact .inr ⟨h1,pM,h3⟩
     ·exact .inr ⟨h1,g2,h3.trans g3⟩
   ·have:=I.pv p hp
    exact .inr ⟨ya aZ this,yb aZ this,I.pj p hp⟩
   ·have hn:=(bJ.mp hx).1
    have hm:=(bJ.mp hy).1;refine .inr ⟨hn,hm,?_⟩;have tv:x.2.map (root σ.up)=y.2.map (root σ.up):=by
     apply sh;intro i;refine aa (dB ..) ?_;refine aa (dB ..) ?_;by_cases hi:i<x.2.length
     ·have kS:i<y.2.length:=eE e2 hi
      refine aa (bV hi ..) ?_;refine aa (bV kS ..) ?_
      have:=e3 i hi;rw[(getD_get hi),(getD_get kS)]at this;rcases this with h|⟨_,_,h⟩
      ·simp[h]
      ·simp[h]
     ·(refine aa (iM (qY hi) ..) ?_;refine aa (iM (BV e2 hi) ..) ?_;rfl)
    have C9:canon σ.up x=canon σ.up y:=by unfold canon;(refine aa (e1 ..) ?_;refine aa (tv ..) ?_;rfl)
    refine ay ((I.k8 n x (eE aZ hn) hx).resolve_left (by simp)) ?_;intro r1 h1 h2;refine ay ((I.k8 m y (eE aZ hm) hy).resolve_left (by simp)) ?_;intro r2 h3 h4;rw[C9,h3]at h1;injection h1 with h1;subst h1;exact h2.symm.trans h4
  rcases h.sound _ hR a b ha hb e with rfl|⟨_,_,h⟩
  ·rfl
  ·exact h
 ·intro e
  have hR:j6 σ.ops ps (λx y=>x=y\/(x<σ.ops.length/\y<σ.ops.length/\bA mk x=bA mk y)):=by
   refine⟨λa=> .inl rfl,λa b h=>?_,λa b c h1 h2=>?_,λp hp=>?_,λn m x y hx hy e1 e2 e3=>?_⟩
   ·rcases h with h|⟨h1,h2,h3⟩
    ·exact .inl h.symm
    ·exact .inr ⟨h2,h1,h3.symm⟩
   ·rcases h1 with rfl|⟨h1,pM,h3⟩
    ·exact h2
    ·rcases h2 with rfl|⟨g1,g2,g3⟩
     ·exact .inr ⟨h1,pM,h3⟩
     ·exact .inr ⟨h1,g2,h3.trans g3⟩
   ·have:=I.pv p hp
    exact .inr ⟨ya aZ this,yb aZ this,hc.pr p hp⟩
   ·have hn:=(bJ.mp hx).1
    refine .inr ⟨hn,((bJ.mp hy).1),hc.hd n m x y hx hy ?_⟩;have tv:x.2.map (bA mk)=y.2.map (bA mk):=by
     apply sh;intro i;refine aa (dB ..) ?_;refine aa (dB ..) ?_;by_cases hi:i<x.2.length
     ·have kS:i<y.2.length:=eE e2 hi
      refine aa (bV hi ..) ?_;refine aa (bV kS ..) ?_
      have:=e3 i hi;rw[(getD_get hi),(getD_get kS)]at this;rcases this with h|⟨_,_,h⟩
      ·simp[h]
      ·simp[h]
     ·(refine aa (iM (qY hi) ..) ?_;refine aa (iM (BV e2 hi) ..) ?_;rfl)
    unfold jh;(refine aa (e1 ..) ?_;refine aa (tv ..) ?_;rfl)
  have lc:∀x,x<σ.ops.length->bA mk x=bA mk (root σ.up x):=λx hx=>by
   rcases I.lc _ hR x (eE aZ hx)with h|⟨_,_,h⟩
   ·(refine aQ (h ..) ?_;rfl)
   ·exact h
  refine aa (lc a ha ..) ?_;refine aa (lc b hb ..) ?_;refine aa (e ..) ?_;rfl
theorem aes{E:List Nat}(I:Inv σ ps E)(J:Inv τ eJ [])(h1:σ.ops.length=σ.up.length)(h2:τ.ops.length=τ.up.length)(hp:∀(m:Nat) nd,σ.ops[m]? =ae nd->τ.ops[m]? =ae nd)(hq:∀p∈ps,p∈eJ)(ha:a<σ.ops.length)(hb:b<σ.ops.length)(e:root σ.up a=root σ.up b):root τ.up a=root τ.up b:=by
 have hR:j6 σ.ops ps (λx y=>x=y\/(x<τ.ops.length/\y<τ.ops.length/\root τ.up x=root τ.up y)):=by
  refine⟨λa=> .inl rfl,λa b h=>?_,λa b c h1 h2=>?_,λp il=>?_,λn m x y hx hy e1 e2 e3=>?_⟩
  ·rcases h with h|⟨h1,h2,h3⟩
   ·exact .inl h.symm
   ·exact .inr ⟨h2,h1,h3.symm⟩
  ·rcases h1 with rfl|⟨h1,pM,h3⟩
   ·exact h2
   ·rcases h2 with rfl|⟨g1,g2,g3⟩
    ·exact .inr ⟨h1,pM,h3⟩
    ·exact .inr ⟨h1,g2,h3.trans g3⟩
  ·have:=J.pv p (hq p il)
   exact .inr ⟨ya h2 this,yb h2 this,J.pj p (hq p il)⟩
  ·have hx:=hp _ _ hx
   have hy:=hp _ _ hy
   have hn:=(bJ.mp hx).1
   have hm:=(bJ.mp hy).1;refine .inr ⟨hn,hm,?_⟩;have tv:x.2.map (root τ.up)=y.2.map (root τ.up):=by
    apply sh;intro i;refine aa (dB ..) ?_;refine aa (dB ..) ?_;by_cases hi:i<x.2.length
    ·have kS:i<y.2.length:=eE e2 hi
     refine aa (bV hi ..) ?_;refine aa (bV kS ..) ?_
     have:=e3 i hi;rw[(getD_get hi),(getD_get kS)]at this;rcases this with h|⟨_,_,h⟩
     ·simp[h]
     ·simp[h]
    ·(refine aa (iM (qY hi) ..) ?_;refine aa (iM (BV e2 hi) ..) ?_;rfl)
   have C9:canon τ.up x=canon τ.up y:=by unfold canon;(refine aa (e1 ..) ?_;refine aa (tv ..) ?_;rfl)
   refine ay ((J.k8 n x (eE h2 hn) hx).resolve_left (by simp)) ?_;intro r1 h1 h2;refine ay ((J.k8 m y (eE (by assumption) hm) hy).resolve_left (by simp)) ?_;intro r2 h3 h4;rw[C9,h3]at h1;injection h1 with h1;subst h1;exact h2.symm.trans h4
 have lc:∀x,x<σ.ops.length->root τ.up x=root τ.up (root σ.up x):=λx hx=>by
  rcases I.lc _ hR x (eE h1 hx)with h|⟨_,_,h⟩
  ·(refine aQ (h ..) ?_;rfl)
  ·exact h
 refine aa (lc a ha ..) ?_;refine aa (lc b hb ..) ?_;refine aa (e ..) ?_;rfl
end
section
section
variable{X:Fx}(C:eM X){v:List aF}
theorem aeZ(h:H.get l=ae (.bL (gW Kn)))(hz:Kn.length<aI)
 (h1:∀m,bc Kn nd=ae m->Q (nat m) H)(h2:bc Kn nd=ai->Q (nat k) (H.set (.bL (gW (dput Kn nd k))) l)):io .li (.ak l) [bk nd,nat k] H Q:=by
 refine aa (LH h ..) ?_;rewrite[wb];refine⟨by unfold gW;rewrite[bp];exact hz,?_⟩
 (rewrite[Ja];rewrite[Jd])
 cases hg:bc Kn nd with
 |none=>exact h2 hg
 |some m=>exact h1 m hg
theorem zy{n:Nat}(h:σ.ops[n]? =ae nd)(hz:n<=aI)(hq:Q (bk nd) (av fd σ (.list (σ.ops.map bk)::tl) v t)):eV (.ak (.s 19)) (nat n) (av fd σ (.list (σ.ops.map bk)::tl) v t) Q:=by
 refine aa (nq lJ (x:=bk nd) (by simp[h]) hz ..) ?_;exact hq
theorem K1(h:Q (.str nd.1) H):eV (bk nd) (.int 0) H Q:=by
 refine(?_:(0<=(0:Int)/\(0:Int)<2^60)/\ok ((PV.str nd.1::nats nd.2)[i8 0]?) λr=>Q r H);exact⟨by decide,h⟩
theorem rF{ys:List Nat}(hk:i<ys.length)(hz:ys.length<=aI)(hq:Q (nat (ys.getD i 0)) H):eV (.lst (nats ys)) (nat i) H Q:=by
 have hL:aI=1000000:=rfl;refine⟨P6 hk hz hL,?_⟩;refine aa ((show((i:Int).toNat)=i from rfl) ..) ?_;have:(nats ys)[i]? =ae (nat (ys.getD i 0)):=map_getD hk;refine aa (this ..) ?_;exact hq
theorem Wn{n:Nat}:fQ X n .listOf ai [.eh k] H Q=(k<=aI/\eb ai (nats (bw k)) H Q):=rfl
theorem Wo{n:Nat}{f:dn}(h:H.get l=ae (.list xs)):fQ X n .listOf (ae f) [.ak l] H Q=eb (ae f) xs H Q:=by
 refine(?_:ok (listOf H (.ak l)) (λxs=>eb (ae f) xs H Q)=_);refine aa (rO h ..) ?_;rfl
theorem rK{n:Nat}:itemsOf H (.eh n)=ae (nats (bw n)):=rfl
theorem abK(h:H.get l=ae (.list xs)):itemsOf H (.ak l)=ae xs:=by
 refine(?_:(match H.get l with|some (.list ps)=>ae ps|some (.fB _ xs)=>ae (xs.map λx=>x.1.pv)|_=>ai)=ae xs);refine aa (h ..) ?_;rfl
noncomputable def mT(t:List aF)(Kn:List ((Str×List Nat)×Nat))(D:List (Nat×Nat)):List aF:=t++[.bL (gW Kn),.list (D.map eH)]
theorem acQ:(mT t Kn D)[t.length]? =ae (.bL (gW Kn)):=by simp[mT]
theorem acR:(mT t Kn D)[t.length+1]? =ae (.list (D.map eH)):=by
 unfold mT
 (refine aa (sk (gQ) ..) ?_;refine aa ((show t.length+1 - t.length=1 by exact x9) ..) ?_);rfl
theorem acS{pu:List ((Str×List Nat)×Nat)}:(mT t Kn D).set t.length (.bL (gW pu))=mT t pu D:=by
 unfold mT
 (refine aa (xc _ _ (bj _) ..) ?_;rewrite[AT]);rfl
theorem LQ{D':List (Nat×Nat)}:(mT t Kn D).set (t.length+1) (.list (D'.map eH))=mT t Kn D':=by
 unfold mT
 (refine aa (xc _ _ (gQ) ..) ?_;refine aa ((show t.length+1 - t.length=1 by exact x9) ..) ?_);rfl
structure sL(ops:List (Str×List Nat))(ps:List (Nat×Nat))(mk:List Nat)(i:Nat)(Kn:List ((Str×List Nat)×Nat))(D:List (Nat×Nat)):Prop where
 kn:∀key m,bc Kn key=ae m->∃nd,ops[m]? =ae nd/\jh mk nd=key
 d:∀p∈D,p.1<ops.length/\p.2<ops.length/\∀R,j6 ops ps R->R p.1 p.2
 sub:∀p∈ps,p∈D
 yG:∀n,n<i->∀nd,ops[n]? =ae nd->∃m,bc Kn (jh mk nd)=ae m/\(m,n)∈D
 kl:Kn.length<=i
 dl:D.length<=ps.length+i
theorem sL.step{pu:List ((Str×List Nat)×Nat)}(hd:Down ops)(hM:j7 ops ps mk)(h:sL ops ps mk i Kn D)(hn:ops[i]? =ae nd)(hm:bc pu (jh mk nd)=ae m)(hk:∀key x,bc pu key=ae x->bc Kn key=ae x\/(key=jh mk nd/\x=i))(dR:∀key x,bc Kn key=ae x->bc pu key=ae x)(hl:pu.length<=i+1):
 sL ops ps mk (i+1) pu (D++[(m,i)]) where
 kn:=λkey x hx=>by
  rcases hk key x hx with h1|⟨rfl,rfl⟩
  ·exact h.kn key x h1
  ·exact⟨nd,hn,rfl⟩
 d:=λp hp=>by
  rcases d8.mp hp with hp|hp
  ·exact h.d p hp
  ·simp at hp
   subst hp;have Kv:∃lS,ops[m]? =ae lS/\jh mk lS=jh mk nd:=by
    rcases hk _ _ hm with h1|⟨_,rfl⟩
    ·exact h.kn _ _ h1
    ·exact⟨nd,hn,rfl⟩
   refine ay Kv ?_;clear Kv;intro lS h1 h2;exact⟨(bJ.mp h1).1,((bJ.mp hn).1),hM.head hd h1 hn h2⟩
 sub:=λp hp=>mP _ (h.sub p hp)
 yG:=λn vG lS dp=>by
  by_cases e:n=i
  ·subst e
   rw[hn]at dp;injection dp with dp;subst dp;exact⟨m,hm,qC _ (eR.mpr rfl)⟩
  ·(refine ay (h.yG n (sR vG e) lS dp) ?_;intro m' h1 h2)
   exact⟨m',dR _ _ h1,mP _ h2⟩
 kl:=hl
 dl:=by refine aa (bS ..) ?_;have:=h.dl;simp;exact Hp this
theorem sL.close(h:sL ops ps mk ops.length Kn D)(hD:∀p∈D,bA mk p.1=bA mk p.2):uI ops ps mk where
 pr:=λp hp=>hD p (h.sub p hp)
 hd:=λn m a b ha hb e=>by
  refine ay (h.yG n (bJ.mp ha).1 a ha) ?_;intro r h1 h2;refine ay (h.yG m (bJ.mp hb).1 b hb) ?_;intro r' h3 h4;rw[e,h3]at h1;injection h1 with h1;subst h1;exact(hD _ h2).symm.trans (hD _ h4)
inductive MW(fd:aF)(σ:St)(tl v t:List aF)(ps:List (Nat×Nat))(k:Nat)(ρ:aJ)(H:HP):Prop
 |mk (mk:List Nat) (g:Bool) (ex:List aF) (q4 q5 q6 q7 q8 q9 fA jm:Option PV) (hk:k=cnt σ.ops.length mk+(if g=ag then 1 else 0)) (hM:j7 σ.ops ps mk) (hc:g=aq->uI σ.ops ps mk)
   (d0:ρ=[ae (.ak (.s 19)),ae (.ak (.s 20)),ae (.lst (nats mk)),ae (.bool g),q4,q5,q6,q7,q8,q9,fA,jm,ai,ai]) (hH:H=av fd σ (.list (σ.ops.map bk)::.list (ps.map eH)::tl) v (t++ex))
inductive MI(fd:aF)(σ:St)(tl v:List aF)(ps:List (Nat×Nat))(mk:List Nat)(t2:List aF)(q8 q9 fA jm:Option PV)(i:Nat)(ρ:aJ)(H':HP):Prop
 |mk (Kn:List ((Str×List Nat)×Nat)) (D:List (Nat×Nat)) (q6 q7:Option PV) (hO:sL σ.ops ps mk i Kn D) (d0:ρ=[ae (.ak (.s 19)),ae (.ak (.s 20)),ae (.lst (nats mk)),ae (.bool aq),ae (.ak (.t t2.length)),ae (.ak (.t (t2.length+1))),q6,q7,q8,q9,fA,jm,ai,ai]) (hH:H'=av fd σ (.list (σ.ops.map bk)::.list (ps.map eH)::tl) v (mT t2 Kn D))
inductive MJ(fd:aF)(σ:St)(tl v:List aF)(ps:List (Nat×Nat))(mk:List Nat)(t2:List aF)(Kn:List ((Str×List Nat)×Nat))(D:List (Nat×Nat))(q6 q7:Option PV)(j:Nat)(ρ:aJ)(H':HP):Prop
 |mk (mk':List Nat) (g':Bool) (q8 q9 fA jm:Option PV) (hM:j7 σ.ops ps mk') (h1:g'=aq->mk'=mk/\∀p∈D.take j,bA mk p.1=bA mk p.2) (h2:cnt σ.ops.length mk'<=cnt σ.ops.length mk) (h3:g'=ag->cnt σ.ops.length mk'<cnt σ.ops.length mk)
   (d0:ρ=[ae (.ak (.s 19)),ae (.ak (.s 20)),ae (.lst (nats mk')),ae (.bool g'),ae (.ak (.t t2.length)),ae (.ak (.t (t2.length+1))),q6,q7,q8,q9,fA,jm,ai,ai]) (hH:H'=av fd σ (.list (σ.ops.map bk)::.list (ps.map eH)::tl) v (mT t2 Kn D))
include C
set_option tactic.hygienic true in
theorem acW(I:Inv σ ps [])(aZ:σ.ops.length=σ.up.length)(eG:ps.length<=100):
 bC X 3 .marks [.ak (.s 19),.ak (.s 20)] (av fd σ (.list (σ.ops.map bk)::.list (ps.map eH)::tl) v t) (λp H'=>∃mk ex,p=.lst (nats mk)/\H'=av fd σ (.list (σ.ops.map bk)::.list (ps.map eH)::tl) v (t++ex)/\j7 σ.ops ps mk/\uI σ.ops ps mk):=by
 have hL:aI=1000000:=rfl
 have hN:=I.tK
 have hD:=I.down;refine eu (M:=Ej) C.O (C.ck .marks (λh=>Fn.noConfusion h)) rfl λQz bu=>?_;have hlen:(σ.ops.map bk).length=σ.ops.length:=bp _
 (with_reducible refine aD ?_;simp only[Ej,ce,bB,ci,cu,cA,bX,aE,bE,r9,eQ,aC,tU,a0,aT,lu,cM,aG,gz,aw,jO lJ,hlen])
 refine⟨gR hL hN,m2 (yc hN) ?_⟩;simp only[Wn,fx,bQ];refine⟨gR hL hN,by simp;exact gR hL hN,by exact bR rfl,by trivial,?_⟩;simp only[fV,aw,oE,aR,bh,oF];refine⟨rfl,?_⟩
 (with_reducible refine aD ?_;simp only[aE,wQ,aG])
 refine⟨MW fd σ tl v t ps,
  ⟨_,bw σ.ops.length,ag,[],ai,ai,ai,ai,ai,ai,ai,ai,rfl,j7.start,(λh=>by exact ft h),rfl,by(rewrite[kI];rfl)⟩,?_⟩
 (intro k;intro ρ;intro H;intro aj;rcases aj with⟨mk,g,ex,q4,q5,q6,q7,q8,q9,fA,jm,rfl,hM,gH,rfl,rfl⟩)
 simp only[gs,gz,aw,qj];cases g with
 |false=>
  refine aa (if_neg (by simp) ..) ?_
  (with_reducible refine aD ?_;simp only[aE,be,cf,aG,gs,gz,aC,aw])
  with_reducible refine bu _ _ ?_
  exact⟨mk,ex,rfl,rfl,hM,gH rfl⟩
 |true=>
  refine aa (if_pos rfl ..) ?_
  (with_reducible refine aD ?_;simp only[aE,bE,bZ,aR,bh,lu,aC])
  (with_reducible refine aD ?_;simp only[aE,bE,bZ,aR,bh,mK,aC])
  refine aa (tL ..) ?_;refine aa (tS ..) ?_
  (with_reducible refine aD ?_;simp only[aE,bE,bZ,aR,bh,cM,aC,a0,aT,aG,gs,gz,aw])
  refine aa (Wo yU ..) ?_;simp only[if_true,jP,tL,tS];refine⟨by rewrite[bp];exact qV eG hL,?_⟩;generalize ht2:t++ex=t2;have aak:t2++[aF.bL []]++[.list (ps.map eH)]=mT t2 [] ps:=by unfold mT gW;simp
  have kW:(t2++[aF.bL []]).length=t2.length+1:=by exact bS
  refine aa (aak ..) ?_;refine aa (kW ..) ?_
  (with_reducible refine aD ?_;simp only[aE,jr,cM,aC,a0,aT,aG,gz,aw])
  refine aa (tH lJ hlen ..) ?_;refine⟨gR hL hN,m2 (yc hN) ?_⟩;refine aa (rK ..) ?_;rewrite[aw];have g0:∀{Kn:List ((Str×List Nat)×Nat)} {D:List (Nat×Nat)},(av fd σ (.list (σ.ops.map bk)::.list (ps.map eH)::tl) v (mT t2 Kn D)).get (.t t2.length)=ae (.bL (gW Kn)):=acQ;have g1:∀{Kn:List ((Str×List Nat)×Nat)} {D:List (Nat×Nat)},(av fd σ (.list (σ.ops.map bk)::.list (ps.map eH)::tl) v (mT t2 Kn D)).get (.t (t2.length+1))=ae (.list (D.map eH)):=acR;refine iZ (I:=MI fd σ tl v ps mk t2 q8 q9 fA jm) (R:=λ_ _ _=>False)
   ⟨[],ps,q6,q7,⟨(λkey m h=>by exact ns h),(λp hp=>by have:=I.pv p hp;exact⟨ya aZ this,yb aZ this,λR hR=>hR.pr p hp⟩),(λp hp=>hp),(λn hn=>by omega),bj _,bj _⟩,rfl,rfl⟩ ?_ (λi ρ H h=>trivial) ?_ (λp ρ H h=>h.elim)
  ·(intro i;intro x;intro ρ;intro H1;intro Q';intro hx;intro aj;rcases aj with⟨Kn,D,q6,q7,hH,rfl,rfl⟩;intro cW;intro hr)
   refine ay (nx hx) ?_;rintro n hn rfl
   (refine aK (by
     have h1:=(bJ.mp hn)
     have h2:=h1.1;rw[eZ]at h2;refine⟨h2,?_⟩
     have h3:=h1.2;rw[Om]at h3;exact h3.symm:i<σ.ops.length/\n=i) ?_;intro gf vG)
   subst vG;refine aM (⟨σ.ops[n],bV gf⟩:∃nd,σ.ops[n]? =ae nd) ?_;intro nd bv
   have dR:=(I.dz n nd bv).2;have kU:∀k∈nd.2,k<mk.length:=λk hk=>by refine aa (hM.len ..) ?_;exact gO ((I.dz n nd bv).1 k hk) gf
   have fj:=hM.len
   (simp only[bZ,aR,bh];with_reducible refine aD ?_;simp only[aE,bE,bZ,aR,bh,eP,aC,cM,a0,aT,gM,gs,gz,dM,aG,nI,aw,eQ,cT])
   refine zy bv (xZ hL hN gf) (K1 ⟨by exact bR rfl,by trivial,zy bv (xZ hL hN gf) ?_⟩);refine aa (tT (BL hL dR) ..) ?_;refine aa (fV ..) ?_;rewrite[aw];refine m7 (f:=λp=>match p with|.int i=>nat (bA mk i.toNat)|_=> .none) (λρ H Q h=>h) (λx hx Q hq=>?_) (by refine aa (bQ ..) ?_;exact BM hL dR) trivial λcG=>?_
   ·(refine ay (bH.mp hx) ?_;rintro k hk rfl)
    simp only[aR,bh,gs,gz,aw];exact rF (kU k hk) (yd hL hN fj) hq
   ·refine⟨_,rfl,?_⟩
    have e1:(nats nd.2).map (λp=>match p with|.int i=>nat (bA mk i.toNat)|_=> .none)=nats (nd.2.map (bA mk)):=by
     unfold nats;(refine aa (cB ..) ?_;refine aa (cB ..) ?_);rfl
    refine aa (e1 ..) ?_;simp only[uY,uZ];refine⟨by(refine aa (bQ ..) ?_;rewrite[bp]);exact BM hL dR,by(refine aa (bQ ..) ?_;rewrite[bp]);simp;exact TP hL dR,?_⟩;have end_:PV.tup ([PV.str nd.1]++nats (nd.2.map (bA mk)))=bk (jh mk nd):=rfl;refine aa (end_ ..) ?_
    (with_reducible refine aD ?_;simp only[aE,be,fq,fD,aC,a0,aT,eQ,aG,gs,gz,aw])
    refine⟨jn (by exact .inl rfl) g1,MM (.inr rfl) g0,?_⟩
    have mv:=hH.kl
    have Kf:=hH.dl;refine aeZ g0 (Hw hL hN gf mv) (λm hm=>?_) (λhm=>?_)
    ·refine⟨by exact bR rfl,?_⟩
     refine aa (j9 g1 ..) ?_;have vd:D.map eH++[.tup [nat m,nat n]]=(D++[(m,n)]).map eH:=by refine aa (iN ..) ?_;rfl
     refine aa (vd ..) ?_;refine aa (rY ..) ?_;refine aa (LQ ..) ?_;exact⟨by rewrite[bp];exact HV eG hL hN gf Kf,rfl,cW _ _ ⟨Kn,D++[(m,n)],_,_,hH.step hD hM bv hm (λkey x h=> .inl h) (λkey x h=>h) (x7 mv),rfl,rfl⟩⟩
    ·simp only[rY,acS]
     refine⟨by exact bR rfl,?_⟩;refine aa (j9 g1 ..) ?_;have vd:D.map eH++[.tup [nat n,nat n]]=(D++[(n,n)]).map eH:=by refine aa (iN ..) ?_;rfl
     refine aa (vd ..) ?_;refine aa (rY ..) ?_;refine aa (LQ ..) ?_;refine⟨by rewrite[bp];exact HV eG hL hN gf Kf,rfl,cW _ _ ⟨_,D++[(n,n)],_,_,hH.step hD hM bv (by(rewrite[je];refine aa (if_pos rfl ..) ?_;rfl)) (λkey x h=>?_) (λkey x h=>?_) (dC (n6 _ _ _) (TQ mv)),rfl,rfl⟩⟩
     ·rw[je]at h
      split at h
      ·rename_i e;injection h with h;exact .inr ⟨e,h.symm⟩
      ·exact .inl h
     ·(rewrite[je];refine aa (if_neg (λe=>by rw[e,hm]at h;exact ns h) ..) ?_);exact h
  ·(intro ρ;intro H1;intro aj;rcases aj with⟨Kn,D,q6,q7,hH,rfl,rfl⟩)
   rw[bQ,eZ]at hH
   (with_reducible refine aD ?_;simp only[aE,be,jr,aG,gs,gz,aC,aw])
   refine aa (abK g1 ..) ?_;rewrite[aw];refine iZ (I:=MJ fd σ tl v ps mk t2 Kn D q6 q7) (R:=λ_ _ _=>False)
    ⟨mk,aq,q8,q9,fA,jm,hM,(λ_=>⟨rfl,λp hp=>by simp at hp⟩),bj _,(λh=>by exact ff h),rfl,rfl⟩ ?_ (λi ρ H zq=>by rcases zq with⟨_,_,_,_,_,_,_,_,_,_,_,h⟩;refine aa (h ..) ?_;rfl) ?_ (λp ρ H h=>h.elim)
   ·(intro j;intro x;intro ρ;intro H1;intro Q';intro hx;intro aj;rcases aj with⟨mk',g',q8,q9,fA,jm,tj,mq,ms,og,rfl,rfl⟩;intro cW;intro hr)
    (refine ay (by
      rw[dB,i9]at hx;refine ay hx ?_;clear hx;intro y c1 c2;exact⟨y,c1,c2.symm⟩:∃pr,D[j]? =ae pr/\x=eH pr) ?_;rintro pr KD rfl)
    rcases pr with⟨a,b⟩
    refine eB (hH.d _ (eD KD)) ?_;intro ha hb fH;have fT:D.take (j+1)=D.take j++[(a,b)]:=by(refine aa (kK ..) ?_;refine aa (KD ..) ?_);rfl
    have fj:=tj.len;dsimp only at ha hb fH;have aaD:eH (a,b)=.tup [nat a,nat b]:=rfl;refine aa (aaD ..) ?_;simp only[r9,tU,fV,aw,oE,aR,bh,oF];refine⟨by trivial,rfl,?_⟩
    (with_reducible refine aD ?_;simp only[aE,bE,r9,eQ,aC,tU,a0,aT,dM,aG,gs,gz,aw])
    refine rF (qZ ha fj) (yd hL hN fj) (rF (qZ hb fj) (yd hL hN fj) ?_);refine⟨by exact bR rfl,by trivial,rfl,?_⟩;simp only[oE,aR,bh,oF]
    (with_reducible refine aD ?_;simp only[aE,be,w_ite,cc,ef,aG,gs,gz,aC,aw,yA])
    have e1:mk'.getD a 0=bA mk' a:=rfl;have e2:mk'.getD b 0=bA mk' b:=rfl;refine aa (e1 ..) ?_;refine aa (e2 ..) ?_;by_cases dJ:bA mk' a=bA mk' b
    ·refine aa (if_neg (by refine aa ((decide_eq_true dJ) ..) ?_;simp) ..) ?_
     refine cW _ _ ⟨mk',g',_,_,_,_,tj,λhg=>?_,ms,og,rfl,rfl⟩;refine aK (mq hg) ?_;rintro rfl h2;refine⟨rfl,λp hp=>?_⟩;rw[fT]at hp;rcases d8.mp hp with hp|hp
     ·exact h2 p hp
     ·simp at hp;refine aa (hp ..) ?_;exact dJ
    ·refine aa (if_pos (by refine aa ((decide_eq_false dJ) ..) ?_;rfl) ..) ?_
     (with_reducible refine aD ?_;simp only[aE,bE,bZ,aR,bh,gM,gs,gz,mL,aG,aC,cc,aw])
     refine⟨by trivial,?_⟩;refine aa (fU ..) ?_;rewrite[aw];refine m7 (f:=λp=>match p with|.int i=>nat (if i.toNat=bA mk' b then bA mk' a else i.toNat)|_=> .none) (λρ H Q h=>h) (λx hx Q hq=>?_) (by refine aa (bQ ..) ?_;exact yd hL hN fj) trivial λcG=>?_
     ·(refine ay (bH.mp hx) ?_;rintro k hk rfl)
      simp only[aR,bh,gs,gz,aw,m4];refine⟨by trivial,?_⟩;by_cases oh:k=bA mk' b
      ·refine aa (if_pos (by(refine aa ((decide_eq_true oh) ..) ?_;rfl)) ..) ?_
       have:nat (bA mk' a)=nat (if k=bA mk' b then bA mk' a else k):=by(refine aa (if_pos oh ..) ?_;rfl)
       refine aa (this ..) ?_;exact hq
      ·refine aa (if_neg (by refine aa ((decide_eq_false oh) ..) ?_;simp) ..) ?_
       have:nat k=nat (if k=bA mk' b then bA mk' a else k):=by(refine aa (if_neg oh ..) ?_;rfl)
       refine aa (this ..) ?_;exact hq
     ·refine⟨_,rfl,?_⟩
      have e3:(nats mk').map (λp=>match p with|.int i=>nat (if i.toNat=bA mk' b then bA mk' a else i.toNat)|_=> .none)=nats (nw mk' (bA mk' a) (bA mk' b)):=by
       unfold nats nw;(refine aa (cB ..) ?_;refine aa (cB ..) ?_);rfl
      refine aa (e3 ..) ?_
      (with_reducible refine aD ?_;simp only[aE,be,bE,bZ,aR,bh,lu,aC])
      have bo:=Xd tj.lt (EM (show a<mk'.length by exact qZ ha fj)) (EM (show b<mk'.length by exact qZ hb fj)) dJ;exact cW _ _ ⟨_,ag,_,_,_,_,tj.rep ha hb fH,(λh=>by exact ft h),BD ms bo,(λ_=>by exact TR ms bo),rfl,rfl⟩
   ·(intro ρ;intro H1;intro aj;rcases aj with⟨mk',g',q8,q9,fA,jm,tj,mq,ms,og,rfl,rfl⟩)
    rw[bp,kL]at mq;refine⟨_,?_,mk',g',ex++[.bL (gW Kn),.list (D.map eH)],_,_,_,_,_,_,_,_,rfl,tj,λhg=>?_,rfl,?_⟩
    ·cases g' with
     |true=>have:=og rfl;simp;exact BU this
     |false=>simp;exact BR ms
    ·(refine aK (mq hg) ?_;rintro rfl h2)
     exact hH.close h2
    ·unfold mT;(refine aQ (ht2 ..) ?_;rewrite[kH];rfl)
end
end
section
theorem XA:∀(xs:List (Nat×cr)) (acc:List (Atom×PV)) (m:Nat),(∃(i:Nat) (l:cr),xs[i]? =ae (m,l)/\bc (xs.foldl (λacc x=>dput acc (.i (x.1:Int)) (.ak x.2)) acc) (.i (m:Int))=ae (.ak l))\/(m∉xs.map (·.1)/\bc (xs.foldl (λacc x=>dput acc (.i (x.1:Int)) (.ak x.2)) acc) (.i (m:Int))=bc acc (.i (m:Int))):=by
 intro xs;induction xs with
 |nil=>
  intro acc m;exact .inr ⟨by simp,rfl⟩
 |cons x xs ih=>
  intro acc m;refine aa (lx ..) ?_;rcases ih (dput acc (.i (x.1:Int)) (.ak x.2)) m with⟨i,l,h1,h2⟩|⟨h1,h2⟩
  ·exact .inl ⟨i+1,l,h1,h2⟩
  ·(refine aa (h2 ..) ?_;rewrite[je])
   by_cases e:m=x.1
   ·subst e
    refine aa (if_pos rfl ..) ?_;exact .inl ⟨0,x.2,rfl,rfl⟩
   ·refine aa (if_neg (λh=>e (mD h)) ..) ?_
    refine .inr ⟨?_,rfl⟩;refine aa (bB ..) ?_;rewrite[cH];exactλh=>h.elim e h1
noncomputable def oz(mk:List Nat)(t0:Nat):List (Nat×cr):=(bw mk.length).map λi=>(bA mk i,cr.t (t0+i))
theorem acJ(mk:List Nat)(t0:Nat):∃J:Nat->Nat,(∀n,n<mk.length->J n<mk.length/\bA mk (J n)=bA mk n/\bc (s9 (oz mk t0)) (.i (bA mk n:Int))=ae (.ak (.t (t0+J n))))/\∀n m,n<mk.length->m<mk.length->(J n=J m↔bA mk n=bA mk m):=by
 have h:∀n,∃j,n<mk.length->j<mk.length/\bA mk j=bA mk n/\bc (s9 (oz mk t0)) (.i (bA mk n:Int))=ae (.ak (.t (t0+j))):=λn=>by
  by_cases hn:n<mk.length
  ·rcases XA (oz mk t0) [] (bA mk n)with⟨i,l,h1,h2⟩|⟨h1,_⟩
   ·unfold oz at h1
    rw[dB,i9]at h1;refine ay h1 ?_;clear h1;intro j h3 h4;injection h4 with h4 h5;exact⟨j,λU=>⟨(er.mp (eD h3)),h4,by refine aa (h5 ..) ?_;exact h2⟩⟩
   ·exfalso
    apply h1;unfold oz;refine aa (cB ..) ?_;rewrite[bH];exact⟨n,er.mpr hn,rfl⟩
  ·exact⟨0,λh=>absurd h hn⟩
 refine aM (Classical.skolem.mp h) ?_;intro J hJ;refine⟨J,hJ,λn m hn hm=>⟨λe=>?_,λe=>?_⟩⟩
 ·(refine aQ (((hJ n hn).2.1) ..) ?_;refine aQ (((hJ m hm).2.1) ..) ?_;refine aa (e ..) ?_;rfl)
 ·have h1:=(hJ n hn).2.2
  rw[e,((hJ m hm).2.2)]at h1;injection h1 with h1;injection h1 with h1;injection h1 with h1;exact TS h1
noncomputable def iL(Lg:Nat->List Nat)(ks:List Nat):List (List Nat):=ks.foldl (λws k=>ws.flatMap λw=>(dK (Lg k)).map λb=>w++[b]) [[]]
theorem Fv(Lg:Nat->List Nat)(ks:List Nat)(k:Nat):iL Lg (ks++[k])=(iL Lg ks).flatMap λw=>(dK (Lg k)).map λb=>w++[b]:=by
 unfold iL;refine aa (sj ..) ?_;rfl
theorem ME{α:Type}{P:List α->Prop}(h0:P [])(h1:∀l a,P l->P (l++[a])):∀l,P l:=by
 intro l;have:∀r:List α,P r.reverse:=by
  intro r;induction r with
  |nil=>exact h0
  |cons a r ih=>refine aa (sr ..) ?_;exact h1 _ _ ih
 have:=this l.reverse;rwa [List.reverse_reverse]at this
theorem yQ{l:List Nat}{x:Nat}(h:i<l.length):(l++[x]).getD i 0=l.getD i 0:=by
 refine aa (da ..) ?_;refine aa (ui h ..) ?_;refine aa (da ..) ?_;rfl
theorem yR{l:List Nat}{x:Nat}:(l++[x]).getD l.length 0=x:=by
 (refine aa (da ..) ?_;refine aa (sk (bj _) ..) ?_;rewrite[AT]);rfl
theorem zP(Lg:Nat->List Nat):∀(ks bs:List Nat),bs∈iL Lg ks↔bs.length=ks.length/\∀i,i<ks.length->bs.getD i 0∈Lg (ks.getD i 0):=by
 intro ks;refine ME (P:=λks=>∀bs,bs∈iL Lg ks↔bs.length=ks.length/\∀i,i<ks.length->bs.getD i 0∈Lg (ks.getD i 0)) ?_ ?_ ks
 ·intro bs
  refine(?_:bs∈[[]]↔_);rewrite[eR];constructor
  ·rintro rfl;exact⟨rfl,λi hi=>by simp at hi⟩
  ·(intro aj;refine aK aj ?_;clear aj;intro h aB);exact mO.mp h
 ·intro ks k ih bs
  (rewrite[Fv];rewrite[Os])
  constructor
  ·(intro aj;refine ay aj ?_;clear aj;intro w hw Zl)
   refine ay (bH.mp Zl) ?_;rintro b hb rfl;refine aK ((ih w).mp hw) ?_;intro h1 h2;refine⟨by(refine aa (bS ..) ?_;refine aa (bS ..) ?_;refine aa (h1 ..) ?_);rfl,λi hi=>?_⟩;rw[bS]at hi;by_cases e:i<ks.length
   ·(refine aa (yQ (l:=w) (ie h1 e) ..) ?_;refine aa (yQ (l:=ks) e ..) ?_);exact h2 i e
   ·have:i=ks.length:=by simp at hi;exact TT e hi
    subst this;refine aa (yR ..) ?_;have:(w++[b]).getD ks.length 0=b:=by refine aQ (h1 ..) ?_;exact yR
    refine aa (this ..) ?_;exact(jS _).mem_iff.mp hb
  ·(intro aj;refine aK aj ?_;clear aj;intro h1 h2)
   rw[bS]at h1
   (refine eC (by
     have dJ:bs≠[]:=λh=>by rw[h]at h1;simp at h1
     exact⟨bs.dropLast,bs.getLast dJ,(N8 dJ).symm⟩:∃w b,bs=w++[b]) ?_;rintro w b rfl)
   rw[bS]at h1;have hw:w.length=ks.length:=by simpa using h1
   refine⟨w,(ih w).mpr ⟨hw,λi hi=>?_⟩,bH.mpr ⟨b,(jS _).mem_iff.mpr ?_,rfl⟩⟩
   ·have:=h2 i (by refine aa (bS ..) ?_;exact HW hi)
    rwa [yQ (l:=w) (ie hw hi),yQ (l:=ks) hi]at this
   ·have:=h2 ks.length (by refine aa (bS ..) ?_;simp)
    rw[yR]at this;have e:(w++[b]).getD ks.length 0=b:=by refine aQ (hw ..) ?_;exact yR
    rwa [e]at this
theorem ago{Lg:Nat->List Nat}(h:∀k,(Lg k).length<=8):∀ks:List Nat,(iL Lg ks).length<=8^ks.length:=by
 intro ks;refine ME (P:=λks=>(iL Lg ks).length<=8^ks.length) (bj _) (λks k ih=>?_) ks
 (rewrite[Fv];refine aa (bS ..) ?_)
 have:∀ws:List (List Nat),(ws.flatMap λw=>(dK (Lg k)).map λb=>w++[b]).length<=ws.length*8:=by
  intro ws;induction ws with
  |nil=>exact bR rfl
  |cons w ws abv=>
   refine aa (xa ..) ?_;refine aa (bS ..) ?_;rewrite[bp];refine aa (((jS _).length_eq) ..) ?_;refine aa (dX ..) ?_
   have:=h k;exact HX abv this
 have h2:=this (iL Lg ks);have h3:(iL Lg ks).length*8<=8^ks.length*8:=OK 8 ih;have h4:8^(ks.length+1)=8^ks.length*8:=F5 8 ks.length;refine(?_:_<=8^(ks.length+1));omega
noncomputable def lg(ls:List (List Nat))(J:Nat->Nat)(n:Nat):List Nat:=ls.getD (J n) []
noncomputable def kB(ls:List (List Nat)):Nat:=(ls.map sm).sum
structure jF(ops:List (Str×List Nat))(mk:List Nat)(J:Nat->Nat)(ls:List (List Nat)):Prop where
 len:ls.length=ops.length
 nd:∀L∈ls,L.Nodup
 lt:∀L∈ls,∀b∈L,b<8
 sound:∀n,n<ops.length->∀b∈lg ls J n,eS ops (bA mk) n b
theorem jF.l8(h:jF ops mk J ls):∀L∈ls,L.length<=8:=λL hL=>by
 have hs:L⊆bw 8:=λb hb=>er.mpr (h.lt L hL b hb)
 have:=(h.nd L hL).length_le_of_subset hs;rwa [eZ]at this
theorem jF.g8(h:jF ops mk J ls)(n:Nat):(lg ls J n).length<=8:=by
 unfold lg;by_cases hn:J n<ls.length
 ·(refine aa (da ..) ?_;refine aa (bV hn ..) ?_)
  exact h.l8 _ (ly hn)
 ·(refine aa (da ..) ?_;refine aa (iM (qY hn) ..) ?_);exact bR rfl
theorem jF.kB(h:jF ops mk J ls)(cm:ops.length<=16):kB ls<=128:=by
 have:∀l:List (List Nat),(∀L∈l,L.length<=8)->(l.map sm).sum<=8*l.length:=by
  intro l;induction l with
  |nil=>intro _;exact bj _
  |cons a l ih=>
   intro hl;refine aa (bB ..) ?_;refine aa (qE ..) ?_;refine aa (dX ..) ?_
   have:=hl a ca
   have:=ih λL hL=>hl L (cI _ hL);exact TU (by assumption) this
 have h2:=this ls h.l8
 have:=h.len;unfold Internal.kB;exact TV cm h2 this
def Bu(ops:List (Str×List Nat))(J:Nat->Nat)(ls:List (List Nat))(n:Nat):Prop:=∀nd,ops[n]? =ae nd->∀bs∈iL (lg ls J) nd.2,overF nd.1 bs∈lg ls J n
theorem afP(h:j<ls.length):kB (ls.set j (ls.getD j []++[b]))=kB ls+1:=by
 unfold kB;induction ls generalizing j with
 |nil=>simp at h
 |cons L ls ih=>
  cases j with
  |zero=>simp[bh];exact BQ
  |succ j=>
   simp only[bh,bB,qE,FT];exact TW (ih (j:=j) (by simpa using h))
theorem acp{n:Nat}(h:J n<ls.length):lg (ls.set (J n) (lg ls J n++[b])) J m=if J m=J n then lg ls J n++[b]else lg ls J m:=by
 unfold lg;refine aa (da ..) ?_;refine aa (uj ..) ?_;by_cases e:J m=J n
 ·(refine aa (if_pos e.symm ..) ?_;refine aa (if_pos h ..) ?_;refine aa (if_pos e ..) ?_);rfl
 ·(refine aa (if_neg (jz e) ..) ?_;refine aa (if_neg e ..) ?_;refine aQ (da ..) ?_;rfl)
set_option tactic.hygienic true in
theorem jF.put(h:jF ops mk J ls)(hJ:∀n m,n<ops.length->m<ops.length->(J n=J m↔bA mk n=bA mk m)){n:Nat}(hn:n<ops.length)(Dj:J n<ops.length)(hb:eS ops (bA mk) n b)(ik:b∉lg ls J n):jF ops mk J (ls.set (J n) (lg ls J n++[b])) where
 len:=by refine aa (qA ..) ?_;exact h.len
 nd:=λL hL=>by
  rcases Ov hL with h1|rfl
  ·exact h.nd L h1
  ·rewrite[l7]
   refine⟨?_,by exact qD _ _,λa ha c hc e=>?_⟩
   ·unfold lg
    by_cases hl:J n<ls.length
    ·(refine aa (da ..) ?_;refine aa (bV hl ..) ?_);exact h.nd _ (ly hl)
    ·(refine aa (da ..) ?_;refine aa (iM (qY hl) ..) ?_);exact .nil
   ·simp at hc
    subst hc e;exact ik ha
 lt:=λL hL=>by
  rcases Ov hL with h1|rfl
  ·exact h.lt L h1
  ·intro x hx
   rcases d8.mp hx with hx|hx
   ·exact(h.sound n hn x hx).LO
   ·simp at hx;refine aa (hx ..) ?_;exact hb.LO
 sound:=λm hm x hx=>by
  rw[acp (by refine aa (h.len ..) ?_;exact Dj)]at hx;split at hx
  ·rename_i e
   have he:bA mk n=bA mk m:=((hJ m n hm hn).mp e).symm;rcases d8.mp hx with hx|hx
   ·exact(h.sound n hn x hx).pH he
   ·simp at hx;refine aa (hx ..) ?_;exact hb.pH he
  ·exact h.sound m hm x hx
theorem agn(hd:Down ops)(h:jF ops mk J ls){n:Nat}(bv:ops[n]? =ae nd)(hb:bs∈iL (lg ls J) nd.2):eS ops (bA mk) n (overF nd.1 bs):=by
 refine aK ((zP _ _ _).mp hb) ?_;intro h1 h2;exact .mk bv rfl h1 λi hi=>h.sound _ (gO (hd n nd bv _ (getD_mem hi)) ((bJ.mp bv).1)) _ (h2 i hi)
theorem acK(hd:Down ops)(hJ:∀n m,n<ops.length->m<ops.length->(J n=J m↔bA mk n=bA mk m))(hc:∀n,n<ops.length->Bu ops J ls n){n:Nat}(h:eS ops (bA mk) n b)(hn:n<ops.length):b∈lg ls J n:=by
 induction h with
 | @mk n m nd bs h1 h2 h3 h4 ih=>
   have hm:=(bJ.mp h1).1
   have:=hc m hm nd h1 bs ((zP _ _ _).mpr ⟨h3,λi hi=>ih i hi (gO (hd m nd h1 _ (getD_mem hi)) hm)⟩);unfold lg at this⊢;rwa [((hJ m n hm hn).mpr h2)]at this
end
section
theorem I1{ev:aJ->HP->(PV->HP->Prop)->Prop}{Q:aJ->aF->HP->Prop}(I:Nat->List PV->HP->Prop)(ws:List PV)(ht:∀ρ H Q,Q ag H->gt ρ H Q)(he:∀(k:Nat) (x:PV) (acc:List PV) (H:HP) (Q':PV->HP->Prop),ws[k]? =ae x->I k acc H->(∀p H',I (k+1) (acc++[p]) H'->Q' p H')->ev (aR ρ i x) H Q')(hl:∀k acc H,I k acc H->k<ws.length->acc.length<aI)(hc:∀k acc H,I k acc H->dj H)(hq:∀cG acc H,I ws.length acc H->Q cG (.list acc) H):∀(xs:List PV) (k:Nat) (acc:List PV) (aU:aJ) (H:HP),ws.drop k=xs->k<=ws.length->I k acc H->(∀y,aR aU i y=aR ρ i y)->cw i gt (fh ev) dj xs aU (.list acc) H Q:=by
 intro xs;induction xs with
 |nil=>
  intro k acc aU H e hk h d0;have:ws.length<=k:=by simpa using e
  have:k=ws.length:=BF hk this;subst this;rewrite[cw];exact hq _ _ _ h
 |cons x xs ih=>
  intro k acc aU H e hk h d0;have bo:k<ws.length:=by
   rcases AO k ws.length with h1|h1
   ·exact h1
   ·rw[FN h1]at e;exact jw (noConfusion_of_Nat N6 e)
  have hd:=qz bo;rw[e]at hd;injection hd with h1 h2
  (rewrite[cw];rewrite[d0])
  refine ht _ _ _ ?_;refine aa (if_pos rfl ..) ?_;refine⟨hl k acc H h bo,he k x acc H _ (by(refine aa (h1 ..) ?_;refine aa (bV bo ..) ?_;rfl)) h λp H' h'=>⟨hc _ _ _ h',?_⟩⟩;exact ih (k+1) (acc++[p]) _ H' h2.symm bo h' λy=>E8
theorem Xh{ev:aJ->HP->(PV->HP->Prop)->Prop}{f:PV->PV}{Q:aJ->aF->HP->Prop}(J:aJ->Prop)(hJ:∀ρ x,J ρ->J (aR ρ i x))(ht:∀ρ H Q,Q ag H->gt ρ H Q)(hc:dj H):∀(xs acc:List PV) (aU:aJ),J aU->(∀x∈xs,∀aU,J aU->∀Q,Q (f x) H->ev (aR aU i x) H Q)->acc.length+xs.length<=aI->(∀cG,J cG->Q cG (.list (acc++xs.map f)) H)->cw i gt (fh ev) dj xs aU (.list acc) H Q:=by
 intro xs;induction xs with
 |nil=>
  intro acc aU hj he hz hq;rewrite[cw];simpa using hq aU hj
 |cons x xs ih=>
  intro acc aU hj he hz hq;rewrite[cw];refine ht _ _ _ ?_;refine aa (if_pos rfl ..) ?_;refine⟨by simp at hz;exact BA hz,he x ca aU hj _ ⟨hc,?_⟩⟩;refine ih (acc++[f x]) _ (hJ _ _ hj) (λy hy=>he y (cI _ hy)) (by simp at hz⊢;exact xT hz) λcG Z5=>?_;simpa using(hq cG Z5)
theorem Xi{rest:aJ->aF->HP->(aJ->aF->HP->Prop)->Prop}{f:PV->List PV}{Q:aJ->aF->HP->Prop}(J:aJ->Prop)(ht:∀ρ H Q,Q ag H->gt ρ H Q)(hc:dj H):∀(xs acc:List PV) (aU:aJ),J aU->(∀x∈xs,∀aU acc Q',J aU->acc.length+(f x).length<=aI->(∀lv,J lv->Q' lv (.list (acc++f x)) H)->rest (aR aU i x) (.list acc) H Q')->acc.length+(xs.flatMap f).length<=aI->(∀lv,Q lv (.list (acc++xs.flatMap f)) H)->cw i gt rest dj xs aU (.list acc) H Q:=by
 intro xs;induction xs with
 |nil=>
  intro acc aU hj he hz hq;rewrite[cw];simpa using hq aU
 |cons x xs ih=>
  intro acc aU hj he hz hq;rewrite[cw];refine ht _ _ _ ?_;refine aa (if_pos rfl ..) ?_;rw[xa,bS]at hz;refine he x ca aU acc _ hj (TX hz) λlv Z6=>⟨hc,?_⟩
  refine ih (acc++f x) _ Z6 (λy hy=>he y (cI _ hy)) (by refine aa (bS ..) ?_;exact TY hz) λwU=>?_
  have:=hq wU;rwa [xa,<-kH]at this
section
variable{X:Fx}(C:eM X){v:List aF}
noncomputable def lT(t:List aF)(ls:List (List Nat))(D:List (Atom×PV)):List aF:=t++(ls.map (λL=> .aH (dT L))++[.aH D])
inductive LW(fd:aF)(σ:St)(tl v t:List aF)(D:List (Atom×PV))(mk:List Nat)(J:Nat->Nat)(k:Nat)(ρ:aJ)(H:HP):Prop
 |mk (ls:List (List Nat)) (g:Bool) (q4 q5 q6 q7 q8:Option PV) (hk:k=2*(200 - kB ls)+(if g=ag then 1 else 0)) (hI:jF σ.ops mk J ls) (hc:g=aq->∀n,n<σ.ops.length->Bu σ.ops J ls n)
   (d0:ρ=[ae (.ak (.s 19)),ae (.lst (nats mk)),ae (.ak (.t (t.length+σ.ops.length))),ae (.bool g),q4,q5,q6,q7,q8,ai,ai,ai]) (hH:H=av fd σ (.list (σ.ops.map bk)::tl) v (lT t ls D))
inductive LI(fd:aF)(σ:St)(tl v t:List aF)(D:List (Atom×PV))(mk:List Nat)(J:Nat->Nat)(mC:List (List Nat))(i:Nat)(ρ:aJ)(H:HP):Prop
 |mk (ls:List (List Nat)) (g:Bool) (q4 q5 q6 q7 q8:Option PV) (hI:jF σ.ops mk J ls) (h1:g=aq->ls=mC/\∀n,n<i->Bu σ.ops J mC n) (h2:g=ag->kB mC<kB ls)
   (d0:ρ=[ae (.ak (.s 19)),ae (.lst (nats mk)),ae (.ak (.t (t.length+σ.ops.length))),ae (.bool g),q4,q5,q6,q7,q8,ai,ai,ai]) (hH:H=av fd σ (.list (σ.ops.map bk)::tl) v (lT t ls D))
inductive LK(fd:aF)(σ:St)(tl v t:List aF)(D:List (Atom×PV))(mk:List Nat)(J:Nat->Nat)(mC fk:List (List Nat))(g1:Bool)(WS:List (List Nat))(n':Nat)(nd:Str×List Nat)(q6:Option PV)(j:Nat)(ρ:aJ)(H:HP):Prop
 |mk (ls:List (List Nat)) (g:Bool) (q7 q8:Option PV) (hI:jF σ.ops mk J ls) (h1:g=aq->g1=aq/\ls=fk/\∀w∈WS.take j,overF nd.1 w∈lg fk J n') (h2:g=ag->kB mC<kB ls)
   (d0:ρ=[ae (.ak (.s 19)),ae (.lst (nats mk)),ae (.ak (.t (t.length+σ.ops.length))),ae (.bool g),ae (nat n'),ae (.lst (WS.map λw=> .lst (nats w))),q6,q7,q8,ai,ai,ai]) (hH:H=av fd σ (.list (σ.ops.map bk)::tl) v (lT t ls D))
theorem Lv{D:List (Atom×PV)}(h:j<ls.length):(lT t ls D)[t.length+j]? =ae (.aH (dT (ls.getD j []))):=by
 unfold lT;refine aa (sk (sS) ..) ?_;refine aa ((show t.length+j - t.length=j by exact BW) ..) ?_;refine aa (ui (by simpa using h) ..) ?_;refine aa (dB ..) ?_;refine aa (bV h ..) ?_;refine aa (da ..) ?_;refine aa (bV h ..) ?_;rfl
theorem Lu{D:List (Atom×PV)}:(lT t ls D)[t.length+ls.length]? =ae (.aH D):=by
 unfold lT;refine aa (sk (sS) ..) ?_;refine aa ((show t.length+ls.length - t.length=ls.length by exact BW) ..) ?_;refine aa (sk (by simp) ..) ?_;simp
theorem aca{D:List (Atom×PV)}{L:List Nat}(h:j<ls.length):(lT t ls D).set (t.length+j) (.aH (dT L))=lT t (ls.set j L) D:=by
 unfold lT;refine aa (xc _ _ (sS) ..) ?_;refine aa ((show t.length+j - t.length=j by exact BW) ..) ?_;refine aa (List.set_append_left _ _ (by simpa using h) ..) ?_;refine aa (AG ..) ?_;rfl
include C
theorem acL(hD:Down σ.ops)(cm:σ.ops.length<=16)(dR:∀(n:Nat) nd,σ.ops[n]? =ae nd->nd.2.length<=2)(ji:∀nd∈σ.ops,nd.1∈cP)(hM:mk.length=σ.ops.length)(agS:∀x∈mk,x<σ.ops.length):
 bC X 3 .bx [.ak (.s 19),.lst (nats mk)] (av fd σ (.list (σ.ops.map bk)::tl) v t) (λp H'=>∃ls D J,p=.ak (.t (t.length+ls.length))/\H'=av fd σ (.list (σ.ops.map bk)::tl) v (lT t ls D)/\jF σ.ops mk J ls/\(∀n,n<σ.ops.length->J n<σ.ops.length/\bc D (.i (bA mk n:Int))=ae (.ak (.t (t.length+J n))))/\
  ∀n,n<σ.ops.length->∀b,b∈lg ls J n↔eS σ.ops (bA mk) n b):=by
 have hL:aI=1000000:=rfl;have hlen:(σ.ops.map bk).length=σ.ops.length:=bp _;refine eu (M:=Eh) C.O (C.ck .bx (λh=>Fn.noConfusion h)) rfl λQz bu=>?_
 (with_reducible refine aD ?_;simp only[Eh,ce,bB,ci,cu,cA,bX,aE,bE,r9,eQ,aC,tU,a0,aT,lu,cM,gM,gs,gz,mK,aG,aw])
 refine⟨by trivial,?_⟩;refine aa (fU ..) ?_;rewrite[aw];refine I1 (I:=λk acc H'=>acc=((bw mk.length).take k).map (λi=>tO (bA mk i,cr.t (t.length+i)))/\H'=av fd σ (.list (σ.ops.map bk)::tl) v (t++cu k (.aH []))) (nats mk) (λρ H Q h=>h) (λk x acc H Q' hx hI hQ=>?_) (λk acc H hI hk=>?_) (λk acc H hI=>by trivial) (λcG acc H hI=>?_) (nats mk) 0 [] _ _ rfl (cJ _) ⟨rfl,by simp⟩ (λy=>rfl)
 ·(refine ay (nx hx) ?_;rintro m hm rfl)
  refine aK hI ?_;clear hI;rintro rfl rfl;simp only[aR,bh,gs,gz,tL,↓dy,tS,aw];refine⟨by exact bR rfl,hQ _ _ ⟨?_,?_⟩⟩
  ·(refine aa (kK ..) ?_;refine aa (xb ((bJ.mp hm).1) ..) ?_;refine aa (iN ..) ?_)
   congr 1
   have:bA mk k=m:=by unfold bA;(refine aa (da ..) ?_;refine aa (hm ..) ?_);rfl
   simp[tO,this]
  ·(rewrite[kH];refine aQ (List.replicate_succ' ..) ?_;rfl)
 ·refine aa (hI.1 ..) ?_;rw[bQ]at hk;simp;exact TZ cm hM hL
 ·(refine aK hI ?_;clear hI;rintro rfl rfl)
  refine aa (bQ ..) ?_;have e1:((bw mk.length).take mk.length).map (λi=>tO (bA mk i,cr.t (t.length+i)))=(oz mk t.length).map tO:=by
   unfold oz
   (refine aa (FY (by simp) ..) ?_;refine aa (cB ..) ?_);rfl
  refine aa (e1 ..) ?_;refine⟨_,rfl,?_⟩;refine Wf (f:=.t) (by unfold oz;(rewrite[bp];refine aa (eZ ..) ?_);exact T0 cm hM) ?_;refine ay (acJ mk t.length) ?_;intro J pO C1;rw[hM]at pO C1;generalize hDD:s9 (oz mk t.length)=D at*;refine aa (tL ..) ?_;refine aa (tS ..) ?_;have hN:(t++cu mk.length (aF.aH [])).length=t.length+σ.ops.length:=by simp[hM]
  have aaU:t++cu mk.length (aF.aH [])++[.aH D]=lT t (cu σ.ops.length []) D:=by
   unfold lT
   (rewrite[kH];refine aa (List.map_replicate ..) ?_;refine aa (hM ..) ?_);rfl
  refine aa (hN ..) ?_;refine aa (aaU ..) ?_;refine⟨by exact bR rfl,by trivial,?_⟩;refine aa (fV ..) ?_;rewrite[aw];simp only[oE,aR,bh,oF];refine⟨rfl,?_⟩;have pN:jF σ.ops mk J (cu σ.ops.length []):=by
   refine⟨by simp,λL hL=>?_,λL hL=>?_,λn hn b hb=>?_⟩
   ·refine aa (((Ow.mp hL).2) ..) ?_;exact .nil
   ·refine aa (((Ow.mp hL).2) ..) ?_;intro b hb;cases hb
   ·unfold lg at hb
    rw[da,Oj,if_pos (pO n hn).1]at hb;cases hb
  (with_reducible refine aD ?_;simp only[aE,wQ,aG])
  refine⟨LW fd σ tl v t D mk J,
   ⟨_,_,ag,ai,ai,ai,ai,ai,rfl,pN,(λh=>by exact ft h),rfl,rfl⟩,?_⟩
  (intro k;intro ρ;intro H;intro aj;rcases aj with⟨mC,g,q4,q5,q6,q7,q8,rfl,hI,gH,rfl,rfl⟩)
  simp only[gs,gz,aw,qj];cases g with
  |false=>
   refine aa (if_neg (by simp) ..) ?_
   (with_reducible refine aD ?_;simp only[aE,be,cf,aG,gs,gz,aC,aw])
   with_reducible refine bu _ _ ?_
   refine⟨mC,D,J,by(refine aa (hI.len ..) ?_;rfl),rfl,hI,λn hn=>⟨(pO n hn).1,(pO n hn).2.2⟩,λn hn b=>⟨hI.sound n hn b,λhb=>acK hD C1 (gH rfl) hb hn⟩⟩
  |true=>
   refine aa (if_pos rfl ..) ?_
   (with_reducible refine aD ?_;simp only[aE,bE,bZ,aR,bh,lu,aC])
   (with_reducible refine aD ?_;simp only[aE,be,jr,cM,aC,a0,aT,aG,gz,aw])
   refine aa (tH lJ hlen ..) ?_;refine⟨T3 cm hL,m2 (yc cm) ?_⟩;refine aa (rK ..) ?_;rewrite[aw];have gD:∀{ls:List (List Nat)},ls.length=σ.ops.length->(av fd σ (.list (σ.ops.map bk)::tl) v (lT t ls D)).get (.t (t.length+σ.ops.length))=ae (.aH D):=λ{ls} h=>by refine aQ (h ..) ?_;exact Lu
   have gL:∀{ls:List (List Nat)} {j:Nat},j<ls.length->(av fd σ (.list (σ.ops.map bk)::tl) v (lT t ls D)).get (.t (t.length+j))=ae (.aH (dT (ls.getD j []))):=λ{ls j} h=>Lv h;have DG:∀{ls:List (List Nat)} {n:Nat} {Q:PV->HP->Prop},ls.length=σ.ops.length->n<σ.ops.length->Q (.ak (.t (t.length+J n))) (av fd σ (.list (σ.ops.map bk)::tl) v (lT t ls D))->eV (.ak (.t (t.length+σ.ops.length))) (nat (bA mk n)) (av fd σ (.list (σ.ops.map bk)::tl) v (lT t ls D)) Q:=by
    intro ls n Q h1 h2 hq;refine aa (zw (gD h1) ..) ?_;refine aa (((pO n h2).2.2) ..) ?_;rewrite[aw];exact hq
   refine iZ (I:=LI fd σ tl v t D mk J mC) (R:=λU U U=>False)
    ⟨mC,aq,q4,q5,q6,q7,q8,hI,(λU=>⟨rfl,λn hn=>by omega⟩),(λh=>by exact ff h),rfl,rfl⟩ ?_ (λi ρ H h=>trivial) ?_ (λp ρ H h=>h.elim)
   ·(intro n;intro x;intro ρ;intro H1;intro Q';intro hx;intro aj;rcases aj with⟨fk,g1,q4,q5,q6,q7,q8,jJ,mq,ms,rfl,rfl⟩;intro cW;intro hr)
    refine ay (nx hx) ?_;rintro n' hn rfl
    (refine aK (by
      have h1:=(bJ.mp hn)
      have h2:=h1.1;rw[eZ]at h2;refine⟨h2,?_⟩
      have h3:=h1.2;rw[Om]at h3;exact h3.symm:n<σ.ops.length/\n'=n) ?_;rintro gf rfl)
    refine aM (⟨σ.ops[n'],bV gf⟩:∃nd,σ.ops[n']? =ae nd) ?_;intro nd bv
    have zi:=dR n' nd bv;have kU:∀k∈nd.2,k<σ.ops.length:=λk hk=>gO (hD n' nd bv k hk) gf
    have kW:=jJ.len
    (simp only[bZ,aR,bh];with_reducible refine aD ?_;simp only[aE,bE,bZ,aR,bh,fr,aC,fx,a0,dX,aT,jx])
    refine⟨BJ,T4 hL,?_⟩
    (with_reducible refine aD ?_;simp only[aE,jr,nI,aC,dM,aG,gs,gz,aw])
    refine zy bv (HY cm hL gf) ?_;refine aa (tT (BL hL zi) ..) ?_;refine aa (fV ..) ?_;rewrite[aw];have DB:∀k,(lg fk J k).length<=8:=jJ.g8;refine iZ (I:=λi ρ H'=>∃q6,ρ=[ae (.ak (.s 19)),ae (.lst (nats mk)),ae (.ak (.t (t.length+σ.ops.length))),ae (.bool g1),ae (nat n'),ae (.lst ((iL (lg fk J) (nd.2.take i)).map λw=> .lst (nats w))),q6,q7,q8,ai,ai,ai]/\H'=av fd σ (.list (σ.ops.map bk)::tl) v (lT t fk D)) (R:=λU U U=>False)
     ⟨q6,rfl,rfl⟩ ?_ (λi ρ H h=>trivial) ?_ (λp ρ H h=>h.elim)
    ·(intro i;intro x;intro ρ;intro H1;intro P1;intro hx;intro aj;refine ay aj ?_;clear aj;rintro q6 rfl rfl;intro tx;intro kp)
     refine ay (nx hx) ?_;rintro dz Dl rfl
     have aac:=eD Dl
     have Dm:=kU dz aac;have fT:nd.2.take (i+1)=nd.2.take i++[dz]:=by(refine aa (kK ..) ?_;refine aa (Dl ..) ?_);rfl
     have iD:i<nd.2.length:=(bJ.mp Dl).1;have mx:(iL (lg fk J) (nd.2.take i)).length<=8:=by
      have h1:=ago DB (nd.2.take i);have h2:(nd.2.take i).length<=1:=by refine aa (sq ..) ?_;exact T5 zi iD
      exact T7 h1 (AS (by decide) h2)
     (simp only[bZ,aR,bh];with_reducible refine aD ?_;simp only[aE,be,Aq,aR,bh,agy,gs,gz,eP,aC,fr,fx,a0,aT,aG,cM,dM,aw])
     refine⟨by trivial,?_⟩;refine aa (fU ..) ?_;rewrite[aw];generalize yW:iL (lg fk J) (nd.2.take i)=WS at*;refine Xi (f:=λp=>match p with|.lst xs=>(dK (lg fk J dz)).map λb=> .lst (xs++[nat b])|_=>[]) (J:=λaU=>∃fA jm,aU=[ae (.ak (.s 19)),ae (.lst (nats mk)),ae (.ak (.t (t.length+σ.ops.length))),ae (.bool g1),ae (nat n'),ae (.lst (WS.map λw=> .lst (nats w))),ae (nat dz),q7,q8,ai,fA,jm]) (λρ H Q h=>h) trivial _ [] _ ⟨ai,ai,rfl⟩ (λx hx aU acc Q3 hJ hz JX=>?_) ?_ λlv=>?_
     ·(refine ay (bH.mp hx) ?_;rintro w hw rfl)
      refine eC hJ ?_;clear hJ;rintro fA jm rfl;simp only[aR,bh,gs,gz,aw];have fj:dz<mk.length:=ie hM Dm;refine rF fj (BX cm hM hL) (DG kW Dm ?_);have lK:J dz<fk.length:=by refine aa (kW ..) ?_;exact(pO dz Dm).1
      refine aa (Fc (f:=λk:Nat=>(k,PV.bool ag)) (xs:=fk.getD (J dz) []) (gL lK) ..) ?_;refine aa (fx ..) ?_;have e1:(fk.getD (J dz) []).map (λx=>((λk:Nat=>(k,PV.bool ag)) x).1)=lg fk J dz:=qB _;have CG:(fk.getD (J dz) []).length=(lg fk J dz).length:=rfl;refine aa (e1 ..) ?_;refine aa (CG ..) ?_
      have h8:=DB dz;refine⟨T8 h8,by(refine aa (bQ ..) ?_;refine aa (((jS _).length_eq) ..) ?_);exact T9 hL h8,?_⟩;refine aa (fU ..) ?_;rewrite[aw];dsimp only at hz JX;rw[bp,(jS _).length_eq]at hz;refine Xh (f:=λp=> .lst (nats w++[p])) (J:=λaU=>∃jm,aU=[ae (.ak (.s 19)),ae (.lst (nats mk)),ae (.ak (.t (t.length+σ.ops.length))),ae (.bool g1),ae (nat n'),ae (.lst (WS.map λw=> .lst (nats w))),ae (nat dz),q7,q8,ai,ae (.lst (nats w)),jm]) (λρ x zq=>by(refine aM zq ?_;clear zq;intro q h);exact⟨ae x,by refine aa (h ..) ?_;rfl⟩) (λρ H Q h=>h) trivial _ acc _ ⟨jm,rfl⟩ (λy hy wU JU Q4 Y8=>?_) (by(refine aa (bQ ..) ?_;refine aa (((jS _).length_eq) ..) ?_);exact Io hz) λFz JV=>?_
      ·(refine aM JU ?_;clear JU;rintro q rfl)
       have abc:w.length<=2:=by
        have abb:w∈iL (lg fk J) (nd.2.take i):=by refine aa (yW ..) ?_;exact hw
        (refine aa (((((zP _ _ _).mp abb).1)) ..) ?_;refine aa (sq ..) ?_);exact Ua zi
       simp only[aR,bh,gs,gz,aw,Cm,fx];refine⟨by exact bR rfl,by(refine aa (bS ..) ?_;refine aa (bQ ..) ?_);simp;exact Ub hL abc,Y8⟩
      ·(refine aM JV ?_;clear JV;rintro q rfl)
       have e2:(nats (dK (lg fk J dz))).map (λp=>PV.lst (nats w++[p]))=(dK (lg fk J dz)).map λb=>PV.lst (nats w++[nat b]):=by
        unfold nats;refine aa (cB ..) ?_;rfl
       refine aa (e2 ..) ?_;exact JX _ ⟨_,_,rfl⟩
     ·(refine aa (jx ..) ?_;rewrite[sA])
      have:∀W:List (List Nat),((W.map λw=>PV.lst (nats w)).flatMap λp=>match p with|.lst xs=>(dK (lg fk J dz)).map λb=>PV.lst (xs++[nat b])|_=>[]).length<=W.length*8:=by
       intro W;induction W with
       |nil=>exact bR rfl
       |cons w W ih=>
        refine aa (bB ..) ?_;refine aa (xa ..) ?_;refine aa (bS ..) ?_;refine aa (dX ..) ?_;dsimp only
        (rewrite[bp];refine aa (((jS _).length_eq) ..) ?_);exact HX ih (DB dz)
      exact Uc hL mx (this WS)
     ·refine⟨_,rfl,?_⟩
      refine tx _ _ ⟨ae (nat dz),?_,rfl⟩;refine aa (fT ..) ?_;rewrite[Fv];refine aa (yW ..) ?_;have:(WS.map λw=>PV.lst (nats w)).flatMap (λp=>match p with|.lst xs=>(dK (lg fk J dz)).map λb=>PV.lst (xs++[nat b])|_=>[])=(WS.flatMap λw=>(dK (lg fk J dz)).map λb=>w++[b]).map λw=>PV.lst (nats w):=by
       (rewrite[List.flatMap_map];refine aa (List.map_flatMap ..) ?_)
       congr 1
       funext w
       refine aa (cB ..) ?_;refine iO λb U=>?_;refine(?_:PV.lst (nats w++[nat b])=PV.lst (nats (w++[b])));refine aa (ow ..) ?_;rfl
      (rewrite[bX];refine aa (this ..) ?_;rfl)
    ·(intro ρ;intro H1;intro aj;refine ay aj ?_;clear aj;rintro q6 rfl rfl)
     refine aa (bQ ..) ?_;refine aa (kL ..) ?_
     (with_reducible refine aD ?_;simp only[aE,be,jr,aG,gs,gz,aC,aw])
     refine aa (fU ..) ?_;rewrite[aw];have Zb:∀w∈iL (lg fk J) nd.2,eS σ.ops (bA mk) n' (overF nd.1 w):=λw hw=>agn hD jJ bv hw;have Zc:∀w∈iL (lg fk J) nd.2,w.length<=2:=λw hw=>by refine aa ((((zP _ _ _).mp hw).1) ..) ?_;exact zi
     generalize yW:iL (lg fk J) nd.2=WS at*;refine iZ (I:=LK fd σ tl v t D mk J mC fk g1 WS n' nd q6) (R:=λU U U=>False)
      ⟨fk,g1,q7,q8,jJ,(λh=>⟨h,rfl,λw hw=>by simp at hw⟩),ms,rfl,rfl⟩ ?_ (λi ρ H h=>trivial) ?_ (λp ρ H h=>h.elim)
     ·(intro j;intro x;intro ρ;intro H1;intro P1;intro hx;intro aj;rcases aj with⟨ls,g,q7,q8,n7,og,zb,rfl,rfl⟩;intro tx;intro kp)
      (refine ay (by
        rw[dB,i9]at hx;refine ay hx ?_;clear hx;intro y c1 c2;exact⟨y,c1,c2.symm⟩:∃w,WS[j]? =ae w/\x=.lst (nats w)) ?_;rintro w hw rfl)
      have KM:=eD hw;have fT:WS.take (j+1)=WS.take j++[w]:=by(refine aa (kK ..) ?_;refine aa (hw ..) ?_);rfl
      have kX:=n7.len;have lK:J n'<ls.length:=by refine aa (kX ..) ?_;exact(pO n' gf).1
      have fj:n'<mk.length:=ie hM gf
      (simp only[bZ,aR,bh];with_reducible refine aD ?_;simp only[aE,bE,bZ,aR,bh,x_call,aC,a0,aT,aG,gs,gz,aw,dM,cT])
      refine zy bv (HY cm hL gf) (K1 ?_);refine((Mp C (ji nd (eD bv)) (bs:=w) (by have:=Zc w KM;exact Hq this)).le (by omega)).dt ?_
      (with_reducible refine aD ?_;simp only[aE,be,w_ite,cc,ef,dM,aC,aG,gs,gz,aw])
      refine rF fj (BX cm hM hL) (DG kX gf ?_);refine aa (Ma (gL lK) ..) ?_;have Jj:ls.getD (J n') []=lg ls J n':=rfl;refine aa (Jj ..) ?_;by_cases jL:overF nd.1 w∈lg ls J n'
      ·refine aa (if_neg (by refine aa ((decide_eq_true jL) ..) ?_;simp) ..) ?_
       refine tx _ _ ⟨ls,g,_,_,n7,λhg=>?_,zb,rfl,rfl⟩;refine eB (og hg) ?_;rintro h1 rfl h3;refine⟨h1,rfl,λz hz=>?_⟩;rw[fT]at hz;rcases d8.mp hz with hz|hz
       ·exact h3 z hz
       ·simp at hz;refine aa (hz ..) ?_;exact jL
      ·refine aa (if_pos (by refine aa ((decide_eq_false jL) ..) ?_;rfl) ..) ?_
       (with_reducible refine aD ?_;simp only[aE,bE,nE,aG,gs,gz,aC,aw,dM,lu])
       refine rF fj (BX cm hM hL) (DG kX gf ?_);have Dt:∀{K:HP->Prop},jo (.ak (.t (t.length+J n'))) (nat (overF nd.1 w)) (.bool ag) (av fd σ (.list (σ.ops.map bk)::tl) v (lT t ls D)) K=((dT (lg ls J n')).length<aI/\K (av fd σ (.list (σ.ops.map bk)::tl) v (lT t (ls.set (J n') (lg ls J n'++[overF nd.1 w])) D))):=by
        intro K;refine aa (wG (gL lK) ..) ?_;refine aa (rY ..) ?_;refine aa (Jj ..) ?_;refine aa (yK ..) ?_;refine aa (if_neg jL ..) ?_;refine aa (aca lK ..) ?_;rfl
       refine aa (Dt ..) ?_;have aaX:kB mC<=kB ls:=by
        cases g with
        |true=>exact jy (zb rfl)
        |false=>
         refine eB (og rfl) ?_;rintro h1 rfl h3;refine aK (mq h1) ?_;rintro rfl aB;exact bj _
       refine⟨by unfold dT;rewrite[bp];exact Ud hL (n7.g8 n'),?_⟩
       (with_reducible refine aD ?_;simp only[aE,be,bE,bZ,aR,bh,lu,aC])
       exact tx _ _ ⟨_,ag,_,_,n7.put C1 gf (pO n' gf).1 (Zb w KM) jL,(λh=>by exact ft h),(λU=>by exact HG (afP lK) aaX),rfl,rfl⟩
     ·(intro ρ;intro H1;intro aj;rcases aj with⟨ls,g,q7,q8,n7,og,zb,rfl,rfl⟩)
      rw[bp,kL]at og;refine cW _ _ ⟨ls,g,_,_,_,_,_,n7,λhg=>?_,zb,rfl,rfl⟩;refine eB (og hg) ?_;rintro h1 rfl h3;refine aK (mq h1) ?_;rintro rfl h4;refine⟨rfl,λm hm=>?_⟩;by_cases e:m=n'
      ·subst e
       intro lS dp bs J7;rw[bv]at dp;injection dp with dp;subst dp;rw[yW]at J7;exact h3 bs J7
      ·exact h4 m (sR hm e)
   ·(intro ρ;intro H1;intro aj;rcases aj with⟨ls,g,q4,q5,q6,q7,q8,n7,mq,ms,rfl,rfl⟩)
    rw[bQ,eZ]at mq;refine⟨_,?_,ls,g,q4,q5,q6,q7,q8,rfl,n7,λhg=>?_,rfl,rfl⟩
    ·cases g with
     |true=>have:=ms rfl;simp;exact Ue (n7.kB cm) this
     |false=>(refine aK (mq rfl) ?_;rintro rfl aB);simp
    ·(refine aK (mq hg) ?_;rintro rfl h2)
     exact h2
end
end
section
theorem afO:∀op∈(["lam","app","var1","var2","var01","f"]:List Str),op∈cP:=by decide+kernel
theorem Xc{x:Option Nat}(hx:fW x)(hy:fW y){K:Bool->Prop}:cK .Eq (bF x) (bF y) H K=K (decide (x=y)):=by
 have h:=u5 hx hy (H:=H) (K:=λb=>K (!b));rw[NX]at h;refine aQ (h ..) ?_;refine(?_:((bF x).jc (bF y)/\K ((bF x).eqv (bF y)))=((bF x).jc (bF y)/\K (!(!(bF x).eqv (bF y)))))
 (rewrite[NX];rfl)
theorem L5:gK 5=.tup [.int 0,.int 2]:=by
 have:dq 5=[0,2]:=by decide+kernel
 unfold gK;refine aa (this ..) ?_;rfl
theorem bC.det{X:Fx}{n:Nat}{f:Fn}{b:HP}{a:PV}(h:bC X n f args H (λp H'=>p=a/\H'=b))(hn:n<=m)(q:Q a b):bC X m f args H Q:=
 (h.le hn).mono λp H' x=>by(refine aK x ?_;clear x;rintro rfl rfl);exact q
theorem VC(bs:List Nat):m1 (bs.map ae)=ae bs:=by
 induction bs with
 |nil=>rfl
 |cons b r ih=>show(m1 (r.map ae)).map _=_;refine aa (ih ..) ?_;rfl
theorem ach:6<=aI:=by decide
theorem afN(hz:z<6)(hq:∀op∈cP,Q (.str op) H):eV (.lst [PV.str "lam",.str "app",.str "var1",.str "var2",.str "var01",.str "f"]) (nat z) H Q:=by
 refine(?_:(0<=(z:Int)/\(z:Int)<2^60)/\ok (((["lam","app","var1","var2","var01","f"]:List Str).map PV.str)[(z:Int).toNat]?) λr=>Q r H);refine aa ((show(z:Int).toNat=z from rfl) ..) ?_;have KV:z<(["lam","app","var1","var2","var01","f"]:List Str).length:=hz;refine aa (dB ..) ?_;refine aa (bV KV ..) ?_;exact⟨⟨uM,Uf hz⟩,hq _ (afO _ (ly KV))⟩
section
variable{X:Fx}(C:eM X){v:List aF}{cells:List Int}
include C
theorem Xj{Q:aJ->aF->HP->Prop}{ev:aJ->HP->(PV->HP->Prop)->Prop}(hr:r<=2)(hk:k<=990)(hc:cells.length<=100)(ZO:∀x H Q,bC X 2 .draw [.ak (.s 0),nat 16] H Q->ev (aR ρ i x) H Q)(Zu:∀H,dj H)
 (hq:∀bs:List Nat,bs.length=r->(∀b∈bs,b<16)->∀cG,Q cG (.list (nats bs)) (av (fdOf cells (k+r)) σ tl v t)):cw i (λU H Q=>Q ag H) (fh ev) dj (nats (bw r)) ρ (.list []) (av (fdOf cells k) σ tl v t) Q:=by
 have hL:aI=1000000:=rfl;have pQ:(nats (bw r)).length=r:=by(refine aa (bQ ..) ?_;refine aa (eZ ..) ?_;rfl)
 refine I1 (I:=λj acc H'=>(∃bs:List Nat,acc=nats bs/\bs.length=j/\∀b∈bs,b<16)/\H'=av (fdOf cells (k+j)) σ tl v t) (nats (bw r)) (λρ H Q h=>h) (λj x acc H Q' hx hI hQ=>?_) (λj acc H hI hj=>?_) (λj acc H hI=>Zu H) (λcG acc H hI=>?_) (nats (bw r)) 0 [] _ _ rfl (cJ _) ⟨⟨[],rfl,rfl,λb hb=>by cases hb⟩,rfl⟩ (λy=>rfl)
 ·(refine aK hI ?_;clear hI;intro aj aB;refine ay aj ?_;clear aj;rintro bs rfl dv;refine aK dv ?_;clear dv;intro jK hb;rcases aB with rfl)
  have hj:j<r:=by have:=(bJ.mp hx).1;rwa [pQ]at this
  refine ZO _ _ _ (ta C (by decide) (by decide) (Uh hr hk hj) hc λb C8=>hQ _ _ ⟨⟨bs++[b],by refine aa (ow ..) ?_;rfl,by simp[jK],λc yZ=>?_⟩,rfl⟩);rcases d8.mp yZ with h|h
  ·exact hb c h
  ·rw[eR]at h;refine aa (h ..) ?_;exact C8
 ·(refine aK hI ?_;clear hI;intro aj aB;refine ay aj ?_;clear aj;rintro bs rfl dv;refine aK dv ?_;clear dv;intro jK hb;rcases aB with rfl)
  rw[pQ]at hj;refine aa (bQ ..) ?_;exact Ui hr hL hj jK
 ·(refine aK hI ?_;clear hI;intro aj aB;refine ay aj ?_;clear aj;rintro bs rfl dv;refine aK dv ?_;clear dv;intro jK hb;rcases aB with rfl)
  rw[pQ]at jK⊢;exact hq bs jK hb cG
omit C in
theorem I4(hl:bs.length<=2){Q:aJ->aF->HP->Prop}{ev:aJ->HP->(PV->HP->Prop)->Prop}(h2:∀b Q,Q (gK b) H->ev (aR ρ i (nat b)) H Q)(h3:dj H)(h4:∀cG,Q cG (.list ((bs.map ae).map bF)) H):cw i (λU H Q=>Q ag H) (fh ev) dj (nats bs) ρ (.list []) H Q:=by
 have hL:aI=1000000:=rfl;have X0:(nats bs).map (λp=>match p with|.int i=>gK i.toNat|_=> .none)=(bs.map ae).map bF:=by
  unfold nats;(refine aa (cB ..) ?_;refine aa (cB ..) ?_);rfl
 refine m7 (f:=λp=>match p with|.int i=>gK i.toNat|_=> .none) (λρ H Q h=>h) (λx hx Q hq=>?_) (by refine aa (bQ ..) ?_;exact uN hl hL) h3 λcG=>?_
 ·(refine ay (bH.mp hx) ?_;rintro b aj rfl)
  exact h2 b Q hq
 ·refine aa (X0 ..) ?_;exact h4 cG
theorem Mc{n:Nat}(ho:op∈cP){vs:List (Option Nat)}(hn:2<=n)(hz:vs.length<=3)(cm:∀b,ae b∈vs->b<4096)(hq:∀ex,Q (bF (ee op vs)) (av fd σ tl v (t++ex))):bC X n .mF [self,.str op,.lst (vs.map bF)] (av fd σ tl v t) Q:=
 ((Md C ho hz cm).le hn).mono λp H' x=>by(refine aK x ?_;clear x;rintro rfl aB;refine aM aB ?_;clear aB;rintro ex rfl);exact hq ex
end
theorem LN(hb:∀b∈bs,b<16):∀b,ae b∈bs.map ae->b<4096:=λb vA=>by
 refine ay (bH.mp vA) ?_;intro c h1 h2;injection h2 with h2;exact Uj h2 (hb c h1)
theorem acO(hb:∀b∈bs,b<16):∀b,ae b∈bs.map ae++[ai]->b<4096:=λb vA=>by
 rcases d8.mp vA with h|h
 ·exact LN hb b h
 ·simp at h
theorem adq(op:Str)(bs:List Nat):ee op (bs.map ae)=ae (overF op bs):=by unfold ee;rewrite[VC];rfl
theorem adp(op:Str)(bs:List Nat):ee op (bs.map ae++[ai])=ai:=by unfold ee;refine aa (uR (by exact qC _ ca) ..) ?_;rfl
theorem LP(h:b<4096):fW (ae b):=λc hc=>by injection hc with hc;exact Uk h hc
theorem Xb{x:Option Nat}(hx:fW x){P R:Prop}(h:R):cK .NotEq (bF x) (bF x) H λb=>if b=ag then P else R:=by
 (refine aa (u5 hx hx ..) ?_;refine aa (decide_eq_true rfl ..) ?_);exact h
theorem cmp_none{P R:Prop}(h:P):cK .Is .none .none H λb=>if b=(dh==dh)then P else R:=h
theorem abN{K:Bool->Prop}(h:K ag):cK .Eq (bF (cR ai (ae 5))) (.tup [.int 0,.int 2]) H K:=by
 have h5:fW (ae 5):=LP (by decide);refine aQ (L5 ..) ?_;refine aa ((show cR ai (ae 5)=ae 5 from rfl) ..) ?_;refine aa ((show gK 5=bF (ae 5)from rfl) ..) ?_;refine aa (Xc h5 h5 ..) ?_;refine aa (decide_eq_true rfl ..) ?_;exact h
theorem abR{X:Fx}(C:eM X){n:Nat}(hn:1<=n)(q:Q (bF (cR ai (ae 5))) H):bC X n .joined [self,.none,.tup [.int 0,.int 2]] H Q:=by
 refine aQ (L5 ..) ?_;exact(DP C (x:=ai) (y:=ae 5)).det hn q
theorem acb(h:bs.length<=2):((bs.map ae).map bF++[PV.none]).length<=aI:=by
 have hL:aI=1000000:=rfl
 (refine aa (bS ..) ?_;rewrite[bp];rewrite[bp]);simp;exact Hh h hL
theorem Lw(bs:List Nat):(bs.map ae).map bF++[PV.none]=(bs.map ae++[ai]).map bF:=by refine aa (iN ..) ?_;rfl
section
variable{X:Fx}(C:eM X){v:List aF}{w:Nat}{T:Nat->List aF}(A:pq T ki an){cells:List Int}
include C A
theorem abI(hk:k<=900)(hc:cells.length<=100):bC X 3 .rJ [.ak (.s an),.ak (.s 0)] (av (fdOf cells k) σ (T w) v t) (λp H'=>p=.bool ag/\∃k' ex,k'<=k+4/\H'=av (fdOf cells k') σ (T w) v (t++ex)):=by
 refine eu (M:=D9) C.O (C.ck .rJ (λh=>Fn.noConfusion h)) rfl λQz bu=>?_
 (with_reducible refine aD ?_;simp only[D9,ce,bB,ci,cu,cA,bX,aE,bE,bZ,aR,bh,dM,aC,x_call,a0,aT,cT,aG,gs,gz,aw,fr,fx,fZ])
 refine⟨ach,ta C (by decide) (m:=6) (by decide) (Hy hk) hc λz hz=>afN hz λop ho=>?_⟩
 (with_reducible refine aD ?_;simp only[aE,Aq,aR,bh,gM,gs,gz,x_call,aC,a0,aT,cT,aG,cM,aw])
 refine⟨by trivial,ta C (by decide) (m:=3) (by decide) (Hz hk) hc λr hr=>m2 (Ul hr) ?_⟩;refine aa (rK ..) ?_;rewrite[aw];refine Xj C (Um hr) (Un hk) hc (λx H Q h=>h) (λH=>trivial) λbs jK hb cG=>⟨_,rfl,?_⟩
 have kR:bs.length<=2:=HZ hr jK;generalize dQ:k+1+1+r=k'
 (with_reducible refine aD ?_;simp only[aE,w_ite,be,cc,ef,x_call,aC,a0,aT,aG,gs,gz,aw,de,gM])
 refine⟨A.ou rfl,by trivial,?_⟩;refine aa (fU ..) ?_;rewrite[aw];refine I4 kR (λb Q hq=>(zS C).det (by decide) hq) trivial λt9=>⟨_,rfl,?_⟩
 refine Mc C ho (bj 2) (by rewrite[bp];exact Uo hr jK) (LN hb) λex=>?_;refine(Mp C ho (bs:=bs) (Up hr jK)).det (by decide) ((zS C).det (by decide) ?_);have bo:fW (ae (overF op bs)):=LP (iP (EY (j:=4) (by decide) hb) (by decide));rewrite[adq];refine Xb bo ?_
 (with_reducible refine aD ?_;simp only[aE,bE,bZ,aR,bh,eP,aC,fr,fx,a0,aT,ju,gM,gs,gz,x_call,aG,aw])
 refine⟨by trivial,?_⟩;refine aa (fU ..) ?_;rewrite[aw];refine I4 kR (λb Q hq=>(zS C).det (by decide) hq) trivial λlv=>⟨_,rfl,?_⟩
 refine⟨zI,?_⟩;refine aa (Cm ..) ?_;refine aa (fx ..) ?_;rewrite[Lw];refine⟨by rewrite[<-Lw];exact acb kR,?_⟩
 (with_reducible refine aD ?_;simp only[aE,be,cf,kD,NO,NN,cc,eQ,aC,a0,aT,cT,de,ju,aG,gz,aw,gs])
 refine⟨A.ou rfl,Mc C ho (bj 2) (by(refine aa (bS ..) ?_;rewrite[bp]);simp;exact HZ hr jK) (acO hb) λne=>?_⟩;rewrite[adp];refine cmp_none (H:=av (fdOf cells k') σ (T w) v (t++ex++ne)) ⟨A.ou rfl,tG,abR C (by decide) ⟨tG,abN ?_⟩⟩;with_reducible refine bu _ _ ?_
 exact⟨rfl,k',ex++ne,Ur hr dQ,by(rewrite[<-kH];rfl)⟩
end
end
section
structure mY(σ:St)(V:List (Nat×Option Nat)):Prop where
 vo:gB σ.ops (root σ.up) V
 st:∀n,n<σ.ops.length->uK σ.ops (root σ.up) (bM V) (root σ.up n)
theorem mY.exact(K:mY σ V)(I:Inv σ ps [])(aZ:σ.ops.length=σ.up.length){n:Nat}(hn:n<σ.ops.length):∃v,bM V (root σ.up n)=ae v/\v<4096/\∀k,v.testBit k=ag↔lG σ.ops (root σ.up) n k:=by
 refine ay (ab0 I.down K.st (λm hm k hk=>K.vo.up _ k (hk.pH (wD I.fo (eE aZ hm)).symm)) hn) ?_;intro v h1 h2;exact⟨v,h1,K.vo.b _ v h1,h2⟩
theorem mY.same{V':List (Nat×Option Nat)}(K:mY σ V)(K':mY σ V')(I:Inv σ ps [])(aZ:σ.ops.length=σ.up.length){n:Nat}(hn:n<σ.ops.length):bM V (root σ.up n)=bM V' (root σ.up n):=by
 refine cb (K.exact I aZ hn) ?_;intro v h1 aj h2;refine cb (K'.exact I aZ hn) ?_;intro v' mi aj pM;refine aa (h1 ..) ?_;refine aa (mi ..) ?_
 congr 1
 refine AN λk=>?_
 (rewrite[ub];rewrite[h2];rewrite[pM];rfl)
theorem VJ:∀(l:List Nat) (a k:Nat),(l.foldl (·&&& ·) a).testBit k=(a.testBit k&&l.all λb=>b.testBit k):=by
 intro l;induction l with
 |nil=>
  intro a k;simp
 |cons b l ih=>
  intro a k;refine aa (lx ..) ?_;rewrite[ih];rewrite[sy];refine aa (AD ..) ?_;rewrite[Bool.and_assoc];rfl
theorem VM:∀(l:List Nat) (a:Nat),a<4096->l.foldl (·&&& ·) a<4096:=by
 intro l;induction l with
 |nil=>
  intro a h;exact h
 |cons b l ih=>
  intro a h;exact ih _ (xd OF h)
theorem WK:∀k,k<12->Nat.testBit 4095 k=ag:=by decide+kernel
theorem ab1{L:List Nat}(K:mY σ V)(I:Inv σ ps [])(aZ:σ.ops.length=σ.up.length)(hm:j7 σ.ops ps mk)(hc:uI σ.ops ps mk){n:Nat}(hn:n<σ.ops.length)(hL:∀b,b∈L↔eS σ.ops (bA mk) n b):bM V (root σ.up n)=ae (L.foldl (·&&& ·) 4095):=by
 refine cb (K.exact I aZ hn) ?_;intro v h1 h2 h3;refine aa (h1 ..) ?_
 congr 1
 refine AN λk=>?_;rewrite[VJ];rcases AO k 12 with hk|hk
 ·(refine aa (WK k hk ..) ?_;rewrite[AA];rewrite[ub];rewrite[h3];rewrite[qy])
  have mr:=λ{a b:Nat} (ha:a<σ.ops.length) (hb:b<σ.ops.length)=>acX I aZ hm hc ha hb;constructor
  ·intro h b hb
   exact h b (((hL b).mp hb).mono I.down (λU U h=>h) (λa b ha hb=>(mr ha hb).mp) hn)
  ·intro h b hb
   exact h b ((hL b).mpr (hb.mono I.down (λU U h=>h) (λa b ha hb=>(mr ha hb).mpr) hn))
 ·have e:∀x,x<4096->x.testBit k=aq:=λx hx=>xn (iP hx (show(2:Nat)^12<=2^k from AS (by decide) hk))
  refine aa (e v h2 ..) ?_;refine aa (e 4095 (by omega) ..) ?_;rewrite[wV];rfl
theorem IZ{K:Bool->Prop}:K ag->cK .Eq (.lst []) (.lst []) H K:=λh=>⟨jd rfl rfl (.inl (by decide)),h⟩
section
variable{X:Fx}(C:eM X){v:List aF}{w:Nat}{T:Nat->List aF}(A:pq T ki an)
include C A
theorem abG(hT:∃tl,T w=.list (σ.ops.map bk)::.list (ps.map eH)::tl)(I:Inv σ ps [])(aZ:σ.ops.length=σ.up.length)(eG:ps.length<=100)(ji:∀nd∈σ.ops,nd.1∈cP)(hv:v[w]? =ae (.aH (cy V)))(K:mY σ V):
 bC X 4 .rH [.ak (.s ki),.ak (.s 19),.ak (.s 20)] (av fd σ (T w) v t) (λp H'=>p=.bool ag/\∃ex,H'=av fd σ (T w) v (t++ex)):=by
 have hL:aI=1000000:=rfl
 have hN:=I.tK;refine aM hT ?_;clear hT;intro tl hT;refine eu (M:=D7) C.O (C.ck .rH (λh=>Fn.noConfusion h)) rfl λQz bu=>?_
 (with_reducible refine aD ?_;simp only[D7,ce,bB,ci,cu,cA,bX,aE,bE,bZ,aR,bh,x_call,aC,a0,aT,aG,gs,gz,aw])
 have aam:av fd σ (T w) v t=av fd σ (.list (σ.ops.map bk)::.list (ps.map eH)::tl) v t:=by(refine aa (hT ..) ?_;rfl)
 refine aa (aam ..) ?_;refine(acW C I aZ eG).mono ?_
 (intro p;intro H';intro aj;refine cZ aj ?_;clear aj;rintro mk ex rfl aS;refine aK aS ?_;clear aS;rintro rfl cO;refine aK cO ?_;clear cO;intro M1 M2)
 (with_reducible refine aD ?_;simp only[aE,bE,bZ,aR,bh,x_call,aC,a0,aT,aG,gs,gz,aw])
 refine(acL C I.down (Hr hN) (λn nd h=>(I.dz n nd h).2) ji M1.len M1.lt).mono ?_
 (intro p;intro H';intro aj;refine fL aj ?_;clear aj;rintro ls D J rfl aS;refine aK aS ?_;clear aS;rintro rfl cO;refine eB cO ?_;clear cO;intro hI hJ hB)
 refine aQ (hT ..) ?_
 (with_reducible refine aD ?_;simp only[aE,be,cf,cc,fr,aC,fx,aT,gM,gs,gz,aG,cM,a0,aw])
 have fj:mk.length<=aI:=by refine aa (M1.len ..) ?_;exact gR hL hN
 have CQ:(av fd σ (T w) v (lT (t++ex) ls D)).get (.s 19)=ae (.list (σ.ops.map bk)):=by refine aa (hT ..) ?_;exact lJ
 refine aa (tH CQ (bp _) ..) ?_;refine⟨by trivial,gR hL hN,m2 (yc hN) ?_⟩;refine aa (rK ..) ?_;rewrite[aw];have gL:∀{j:Nat},j<ls.length->(av fd σ (T w) v (lT (t++ex) ls D)).get (.t ((t++ex).length+j))=ae (.aH (dT (ls.getD j []))):=λh=>Lv h;have gD:(av fd σ (T w) v (lT (t++ex) ls D)).get (.t ((t++ex).length+ls.length))=ae (.aH D):=Lu;refine n4 (f:=λp=>p) (c:=λU=>aq) (λx hx Q hq=>?_) (λx hx hc=>by exact ff hc) ?_ ?_ _ (λy=>rfl) λcG=>?_
 ·(refine ay (bH.mp hx) ?_;rintro n hn rfl)
  have hn:n<σ.ops.length:=er.mp hn;simp only[aR,bh,qt,cc,x_call,aC,a0,aT,dM,aG,gs,gz,aw,de];refine⟨A.nr rfl,(Fs C A I (eE aZ hn) hv).det (by omega) ?_⟩;refine rF (by refine aa (M1.len ..) ?_;exact hn) fj ?_;have e:eV (.ak (.t ((t++ex).length+ls.length))) (nat (mk.getD n 0)) (av fd σ (T w) v (lT (t++ex) ls D))= λQ=>Q (.ak (.t ((t++ex).length+J n))) (av fd σ (T w) v (lT (t++ex) ls D)):=by
   funext Q
   refine aa (zw gD ..) ?_;refine aa ((((hJ n hn).2)) ..) ?_;rewrite[aw];rfl
  refine aa (e ..) ?_;refine(adb C (gL (by refine aa (hI.len ..) ?_;exact(hJ n hn).1))).det (by omega) ?_;have hk:bM V (root σ.up n)=ae ((ls.getD (J n) []).foldl (·&&& ·) 4095):=ab1 K I aZ M1 M2 hn (hB n hn);have h2:fW (ae ((ls.getD (J n) []).foldl (·&&& ·) 4095)):=by
   intro b hb;injection hb with hb;refine aQ (hb ..) ?_;exact VM _ _ (by omega)
  refine aa (hk ..) ?_;refine aa ((show gK ((ls.getD (J n) []).foldl (·&&& ·) 4095)=bF (ae ((ls.getD (J n) []).foldl (·&&& ·) 4095))from rfl) ..) ?_;refine aa (u5 h2 h2 ..) ?_;refine aa (decide_eq_true rfl ..) ?_;exact hq
 ·(refine aa (bQ ..) ?_;refine aa (eZ ..) ?_;refine aa (jx ..) ?_);exact Us hL hN
 ·trivial
 ·(refine aa ((show(nats (bw σ.ops.length)).filter (λU=>aq)=[]from FP.mpr (λU U h=>by exact ff h)) ..) ?_;refine aa (ci ..) ?_)
  refine⟨_,rfl,?_⟩;refine⟨cJ _,IZ (bu _ _ ⟨rfl,_,by unfold lT;(rewrite[kH];rfl)⟩)⟩
end
end
section
theorem abC:Inv uJ [] [] where
 fo:=λa h=>absurd h (oR _)
 tK:=cJ _
 EX:=bj _
 dz:=λn nd h=>by exact ns h
 nodup:=FX
 i4:=rfl
 lR:=λr h=>absurd h (oR _)
 rN:=λr h=>absurd h (oR _)
 ot:=λr=>cJ _
 q0:=λr h=>absurd h (oR _)
 kO:=λr x h=>by exact ns h
 yg:=λr r' x h=>by exact ns h
 sT:=bj _
 qo:=λn nd k h=>absurd h (oR _)
 mI:=λr n h=>by cases h
 qq:=λr=>cJ _
 wv:=λn h=>by cases h
 ez:=cJ _
 fz:=cJ _
 mz:=cJ _
 pU:=λkey m h=>by exact ns h
 lQ:=cJ _
 k8:=λn nd h=>absurd h (oR _)
 lc:=λR h a ha=>absurd ha (oR _)
 pj:=λp h=>by cases h
 pv:=λp h=>by cases h
theorem YN:Full uJ []:=⟨abC,rfl,rfl,rfl,λnd h=>by cases h⟩
noncomputable def wK(w:Nat):List aF:=[.attrs [],.inst .fG (.s 21),rM 22 w 25,.inst .Keeper (.s 23),.aH []]
noncomputable def DT:List Str:=["var0","var1","var2","c","var","var01","var-1"]
theorem aci:∀op∈DT,op∈cP:=by decide+kernel
theorem KZ(h:r<7)(hq:∀op∈cP,Q (.str op) H):eV (.lst LB) (nat r) H Q:=by
 refine(?_:(0<=(r:Int)/\(r:Int)<2^60)/\ok ((DT.map PV.str)[(r:Int).toNat]?) λx=>Q x H);refine aa ((show(r:Int).toNat=r from rfl) ..) ?_;refine⟨⟨uM,Ut h⟩,?_⟩;have hr:r<DT.length:=h;refine aa (dB ..) ?_;refine aa (bV hr ..) ?_;exact hq _ (aci _ (ly hr))
theorem Lz:("var0":Str)∈cP/\("var1":Str)∈cP:=by decide+kernel
structure Turn(σ:St)(ps:List (Nat×Nat))(w:Nat)(v:List aF)(V:List (Nat×Option Nat)):Prop where
 F:Full σ ps
 p0:0<σ.ops.length
 hv:v[w]? =ae (.aH (cy V))
 vo:gB σ.ops (root σ.up) V
noncomputable def oB(ns:List Int)(q7 q8 q9 fA:Option PV):aJ:=[ae (.lst (cL ns)),ae (.ak (.s 0)),ae hH,ae (.ak (.s 19)),ae (.ak (.s 20)),ae (.ak (.s 22)),ae (.ak (.s 24)),q7,q8,q9,fA,ai,ai,ai]
section
variable{X:Fx}(C:eM X)
include C
inductive LT(ns:List Int)(cells:List Int)(r1:Nat)(i:Nat)(ρ:aJ)(H':HP):Prop
 |mk (k:Nat) (σ:St) (ps:List (Nat×Nat)) (w:Nat) (v t:List aF) (V:List (Nat×Option Nat)) (q8 q9 fA:Option PV) (d0:ρ=oB ns (ae (nat r1)) q8 q9 fA) (hH:H'=lq cells k σ ps (wK w) v t) (hT:Turn σ ps w v V) (h1:σ.ops.length<=4+4*i) (h2:ps.length<=4*i) (h3:k<=4+25*i) (h4:0<i->Inv σ ps []/\mY σ V)
inductive LD(ns:List Int)(cells:List Int)(r1 k:Nat)(σ:St)(ps:List (Nat×Nat))(w:Nat)(v t:List aF)(q8:Option PV)(i':Nat)(j:Nat)(ρ:aJ)(H':HP):Prop
 |mk (k':Nat) (qv:St) (eJ:List (Nat×Nat)) (fA:Option PV) (d0:ρ=oB ns (ae (nat r1)) q8 (ae (nat i')) fA) (hH:H'=lq cells k' qv eJ (wK w) v t) (hF:Full qv eJ) (h0:0<qv.ops.length) (hM:mZ σ qv ps eJ) (h1:qv.ops.length<=σ.ops.length+j) (h2:eJ.length<=ps.length+j) (h3:k'<=k+1+4*j)
theorem acd(hc:pK X.K .mA zN=ag){ns:List Int}(hl:ns.length<=63):bC X 20 .mA [.lst (cL ns)] ⟨[],[],[],[],[]⟩ (λp U=>p=.bool ag):=by
 have hL:aI=1000000:=rfl;refine eu (M:=zN) C.O hc rfl λQz bu=>?_
 (with_reducible refine aD ?_;simp only[zN,ce,bB,ci,cu,cA,bX,aE,bE,bZ,aR,bh,agA,aC,cT,gM,gs,gz,eP,cM,a0,aT,aG,nI,qe,fx,aw])
 refine⟨by trivial,by unfold cL;rewrite[bp];exact Uu hl hL,?_⟩;refine aa (fU ..) ?_;rewrite[aw]
 (refine ay (by
   refine⟨(ns.take 48).map λi=>i.fmod 1000003,by(rewrite[bp];refine aa (sq ..) ?_);exact Uv,?_⟩;unfold cL
   (refine aQ (List.map_take ..) ?_;refine aa (cB ..) ?_;refine aa (cB ..) ?_);rfl:∃cells:List Int,cells.length<=100/\((cL ns).take 48).map (λp=>match p with|.int i=>PV.int (i.fmod 1000003)|_=> .none)=cL cells) ?_;intro cells gH Zr)
 refine⟨by unfold cL;(refine aa (sq ..) ?_;rewrite[bp]);exact H7 hL,?_⟩;refine m7 (f:=λp=>match p with|.int i=>PV.int (i.fmod 1000003)|_=> .none) (λρ H Q h=>h) (λx hx Q hq=>?_) ?_ ?_ λcG=>?_
 ·(refine ay (bH.mp (Ou hx)) ?_;rintro i aj rfl)
  simp only[aR,bh,gs,gz,aw];exact⟨by omega,hq⟩
 ·unfold cL;(refine aa (sq ..) ?_;rewrite[bp]);exact H7 hL
 ·trivial
 refine aa (Zr ..) ?_;refine⟨_,rfl,?_⟩
 (with_reducible refine aD ?_;simp only[aE,bE,r9,eQ,aC,tU,a0,aT,wS,fr,jP])
 refine⟨18,rfl,((Zd C (fd:=fdOf cells 0) (t:=[])).det (by omega) ⟨rfl,?_⟩)⟩;refine⟨cJ _,cJ _,rfl,by exact bR rfl,by trivial,rfl,?_⟩
 (with_reducible refine aD ?_;simp only[oE,aR,bh,oF,aE,bE,bZ,wS,aC,a0,aT,aG,gs,gz,aw])
 refine⟨18,rfl,((abW C (fd:=fdOf cells 0) (σ:=uJ) (v:=[]) (t:=[])).det (by omega) ⟨rfl,?_⟩)⟩
 (with_reducible refine aD ?_;simp only[bX,aE,bE,bZ,aR,bh,x_call,aC,a0,aT,cT,aG,gs,gz,aw])
 refine((wd C (m:=3) (cells:=cells) (k:=0) (by omega) (by omega) gH).le (by omega)).mono ?_
 (intro p;intro H';intro aj;refine aK aj ?_;clear aj;intro aB aS;refine ay aB ?_;clear aB;rintro r1 aaF rfl;rcases aS with rfl)
 (with_reducible refine aD ?_;simp only[aE,jr,fr,aC,fx,a0,aT,fZ,dM,eP,x_call,cT,aG,gs,gz,aw])
 refine(LC C).det (by omega) (KZ (Ux aaF) λadK km=>?_);refine(LC C).det (by omega) ?_;refine((wd C (m:=4) (cells:=cells) (k:=0+1) (by omega) (by omega) gH).le (by omega)).mono ?_
 (intro p;intro H';intro aj;refine aK aj ?_;clear aj;intro aB aS;refine ay aB ?_;clear aB;rintro r2 KE rfl;rcases aS with rfl)
 refine aa ((show PV.int 3=nat 3 from rfl) ..) ?_;refine aa (sX ..) ?_;refine KZ (Uy KE) λiJ vH=>?_;refine⟨by exact bR rfl,?_⟩;refine aa (fU ..) ?_;rewrite[aw];have aaw:∀x∈[PV.str adK,PV.str iJ,PV.str (mU "var0"),PV.str (mU "var1")],∃op∈cP,x=.str op:=by
  intro x hx;simp only[cH,kJ,or_false]at hx;rcases hx with rfl|rfl|rfl|rfl
  ·exact⟨_,km,rfl⟩
  ·exact⟨_,vH,rfl⟩
  ·exact⟨_,Lz.1,rfl⟩
  ·exact⟨_,Lz.2,rfl⟩
 refine iZ (I:=λi ρ H'=>(∃q8,ρ=oB ns (ae (nat r1)) q8 ai ai)/\∃σ,H'=lq cells 2 σ [] (wK 0) [.aH []] []/\Full σ []/\σ.ops.length<=i/\(0<i->0<σ.ops.length)) (R:=λU U U=>False)
  ⟨⟨ai,rfl⟩,uJ,rfl,YN,bj _,λh=>absurd h (jV _)⟩ ?_ (λi ρ H h=>by trivial) ?_ (λp ρ H h=>h.elim)
 ·(intro i;intro x;intro ρ;intro H1;intro Q';intro hx;intro aj;refine aK aj ?_;clear aj;intro aB aS;refine aM aB ?_;clear aB;rintro q8 rfl;refine ay aS ?_;clear aS;rintro σ rfl l5;refine eB l5 ?_;clear l5;intro F hi h0;intro hn;intro hr)
  have iD:=(bJ.mp hx).1;refine ay (aaw x (eD hx)) ?_;rintro op ho rfl;simp only[dX,jx]at iD;simp only[oB,bZ,aR,bh]
  (with_reducible refine aD ?_;simp only[aE,be,w_ite,t8,ef,x_call,a0,aT,eQ,aC,aG,gs,gz,aw])
  refine⟨by trivial,cJ _,?_⟩;refine((Ir C F (ks:=[]) (cells:=cells) (k:=2) (tl:=wK 0) (v:=[.aH []]) (t:=[]) (by exact bR rfl) ho (λx hx=>by cases hx) (by exact bR rfl) (Uz hi iD)).le (by omega)).mono ?_
  (intro p;intro H';intro aj;refine aK aj ?_;clear aj;rintro rfl aS;refine ay aS ?_;clear aS;rintro τ rfl cO;refine lY cO ?_;clear cO;intro G g1 g2 g0 g3)
  simp only[qj,nJ,dF,if_false];exact hn _ _ ⟨⟨_,rfl⟩,τ,rfl,G,UA hi g2,λU=>g0⟩
 (intro ρ;intro H1;intro aj;refine aK aj ?_;clear aj;intro aB aS;refine aM aB ?_;clear aB;rintro q8 rfl;refine ay aS ?_;clear aS;rintro σ rfl l5;refine eB l5 ?_;clear l5;intro F hi h0)
 simp only[dX,jx]at hi h0
 have h0:=h0 (by omega);simp only[oB]
 (with_reducible refine aD ?_;simp only[aE,jr,cM,aC,a0,aT,eP,x_call,cT,aG,gs,gz,aw])
 refine((wd C (m:=2) (k:=2) (by omega) (by omega) gH).le (by omega)).mono ?_
 (intro p;intro H';intro aj;refine aK aj ?_;clear aj;intro aB aS;refine ay aB ?_;clear aB;rintro r3 kp rfl;rcases aS with rfl)
 refine aa ((show PV.int 2=nat 2 from rfl) ..) ?_;refine aa (sX ..) ?_;refine m2 (UB kp) ?_;refine aa (rK ..) ?_;rewrite[aw];have pQ:∀n,(nats (bw n)).length=n:=λn=>by(refine aa (bQ ..) ?_;refine aa (eZ ..) ?_;rfl)
 refine iZ (I:=LT ns cells r1) (R:=λU U U=>False)
  ⟨3,σ,[],0,_,_,[],q8,ai,ai,rfl,rfl,⟨F,h0,rfl,.nil⟩,UC hi,bj _,by omega,λh=>absurd h (jV _)⟩ ?_ (λi ρ H h=>by trivial) ?_ (λp ρ H h=>h.elim)
 ·(intro i;intro x;intro ρ;intro H1;intro Q';intro hx;intro aj;rcases aj with⟨k,σ,ps,w,v,t,V,q8,q9,fA,rfl,rfl,Tn,b1,b2,b3, -⟩;intro hn;intro hr)
  have hi:=(bJ.mp hx).1;rw[pQ]at hi;refine ay (nx hx) ?_;rintro i' kS rfl;simp only[oB,bZ,aR,bh]
  (with_reducible refine aD ?_;simp only[aE,jr,cM,aC,a0,aT,eP,x_call,cT,aG,gs,gz,aw])
  refine((wd C (m:=3) (by omega) (UD kp b3 hi) gH).le (by omega)).mono ?_
  (intro p;intro H';intro aj;refine aK aj ?_;clear aj;intro aB aS;refine ay aB ?_;clear aB;rintro r4 nk rfl;rcases aS with rfl)
  refine aa ((show PV.int 2=nat 2 from rfl) ..) ?_;refine aa (sX ..) ?_;refine m2 (UE nk) ?_;refine aa (rK ..) ?_;rewrite[aw];refine iZ (I:=LD ns cells r1 k σ ps w v t q8 i') (R:=λU U U=>False)
   ⟨k+1,σ,ps,fA,rfl,rfl,Tn.F,Tn.p0,mZ.aeo _ _,bj _,bj _,bj _⟩ ?_ (λi ρ H h=>by trivial) ?_ (λp ρ H h=>h.elim)
  ·(intro j;intro x;intro ρ;intro H1;intro Q2;intro abe;intro aj;rcases aj with⟨k',qv,eJ,fA,rfl,rfl,F',p0,M,c1,c2,c3⟩;intro cW;intro KE)
   have hj:=(bJ.mp abe).1;rw[pQ]at hj;simp only[oB,bZ,aR,bh]
   (with_reducible refine aD ?_;simp only[aE,be,w_ite,t8,ef,x_call,a0,aT,aG,gs,gz,aC,aw])
   refine⟨by trivial,((Xv C F' (UF kp b2 hi nk c2 hj) p0 (UG kp b1 hi nk c1 hj) (UH kp b3 hi nk c3 hj) gH).le (by omega)).mono ?_⟩
   (intro p;intro H';intro aj;refine aK aj ?_;clear aj;rintro rfl aS;refine t7 aS ?_;clear aS;rintro k2 jv tQ d1 rfl cO;refine lY cO ?_;clear cO;intro F2 d2 d3 d4 M2)
   simp only[qj,nJ,dF,if_false];exact cW _ _ ⟨k2,jv,tQ,_,rfl,rfl,F2,UI p0 d2,M.trans M2,H8 c1 d3,H8 c2 d4,UJ c3 d1⟩
  (intro ρ;intro H1;intro aj;rcases aj with⟨k',qv,eJ,fA,rfl,rfl,F',p0,M,c1,c2,c3⟩)
  rw[pQ]at c1 c2 c3;simp only[oB]
  (with_reducible refine aD ?_;simp only[aE,fq,de,aC,aT,aG,gs,gz,aw])
  refine⟨fX rfl,((ae0 C.toOk F'.I F'.all (H9 kp b2 hi nk c2)).le (by omega)).mono ?_⟩
  (intro p;intro H';intro aj;refine aK aj ?_;clear aj;rintro rfl aS;refine ay aS ?_;clear aS;rintro τ rfl cO;refine t6 cO ?_;clear cO;intro I j1 j2 j3 j4 j5)
  have aZ:τ.ops.length=τ.up.length:=by(refine aa (j2 ..) ?_;refine aa (j3 ..) ?_);exact F'.all
  have ji:∀nd∈τ.ops,nd.1∈cP:=by refine aa (j2 ..) ?_;exact F'.o
  have eW:av (fdOf cells k') τ (.list (qv.ops.map bk)::.list (eJ.map eH)::wK w) v t=av (fdOf cells k') τ (T1 (.list (τ.ops.map bk)) (.list (eJ.map eH)) w) v t:=by refine aa (j2 ..) ?_;rfl
  refine aa (eW ..) ?_;have aa9:gB τ.ops (root τ.up) V:=Tn.vo.grow Tn.F.I.down (λm nd h=>by refine aa (j2 ..) ?_;exact M.ops m nd h) λa b ha hb e=>aes Tn.F.I I Tn.F.all aZ (λm nd h=>by refine aa (j2 ..) ?_;exact M.ops m nd h) M.E3 ha hb e;refine⟨rfl,?_⟩
  (with_reducible refine aD ?_;simp only[aE,fq,de,aC,aT,aG,gs,gz,aw])
  refine⟨zE.nr rfl,((Lk C zE I aZ ji Tn.hv aa9).le (by omega)).mono ?_⟩
  (intro p;intro H';intro aj;refine aK aj ?_;clear aj;rintro rfl aS;refine cZ aS ?_;clear aS;rintro V' ex rfl cO;refine aK cO ?_;clear cO;intro KL eU)
  have K:mY τ V':=⟨KL,eU⟩
  have eA:(v++[aF.aH (cy V')])[v.length]? =ae (.aH (cy V')):=by exact nL
  refine⟨rfl,?_⟩
  (with_reducible refine aD ?_;simp only[aE,be,w_ite,kD,l0,lZ,ef,t8,x_call,a0,aT,aG,gs,gz,aC,aw])
  refine⟨by trivial,((abI C zE (UK kp b3 hi nk c3) gH).le (by omega)).mono ?_⟩
  (intro p;intro H';intro aj;refine aK aj ?_;clear aj;rintro rfl aS;refine cZ aS ?_;clear aS;rintro k3 ne d1 rfl)
  simp only[qj,nJ];refine aa (if_pos (by rfl) ..) ?_;refine⟨by trivial,((abG C zE ⟨_,rfl⟩ I aZ (H9 kp b2 hi nk c2) ji eA K).le (by omega)).mono ?_⟩
  (intro p;intro H';intro aj;refine aK aj ?_;clear aj;rintro rfl aS;refine aM aS ?_;clear aS;rintro mf rfl)
  simp only[qj,nJ];refine aa (if_pos (by rfl) ..) ?_;refine⟨by trivial,?_⟩;refine aa (if_neg (by decide) ..) ?_;exact hn _ _ ⟨k3,τ,eJ,v.length,_,_,V',q8,ae (nat i'),fA,rfl,rfl,⟨⟨by refine aa (j1 ..) ?_;exact I,aZ,by(refine aa (j4 ..) ?_;refine aa (j2 ..) ?_);exact F'.w,by(refine aa (j5 ..) ?_;refine aa (j2 ..) ?_);exact F'.d,ji⟩,by refine aa (j2 ..) ?_;exact p0,eA,KL⟩,by refine aa (j2 ..) ?_;exact UL b1 nk c1,UM b2 nk c2,UN b3 nk c3 d1,λU=>⟨I,K⟩⟩
 (intro ρ;intro H1;intro aj;rcases aj with⟨k,σ,ps,w,v,t,V,q8,q9,fA,rfl,rfl,Tn,b1,b2,b3,hK⟩)
 rw[pQ]at b1 b2 b3 hK;refine aK (hK (UO)) ?_;intro I K
 have aZ:=Tn.F.all;simp only[oB]
 (with_reducible refine aD ?_;simp only[aE,bE,bZ,aR,bh,wS,aC,a0,aT,aG,gs,gz,aw])
 refine⟨rfl,18,rfl,((abX C (fd:=fdOf cells k) (σ:=σ) (v:=v) (t:=t) (o1:=.list (σ.ops.map bk)) (o2:=.list (ps.map eH)) (o3:=.attrs []) (o4:=.inst .fG (.s 21)) (o5:=rM 22 w 25) (o6:=.inst .Keeper (.s 23)) (o7:=.aH []) (o8:=.attrs []) (o9:=.inst .fG (.s 26))).det (by omega) ⟨rfl,?_⟩)⟩
 (with_reducible refine aD ?_;simp only[aE,fq,de,aC,aT,aG,gs,gz,aw])
 have vR:(v++[aF.aH []])[v.length]? =ae (.aH (cy [])):=by exact nL
 refine⟨zF.nr rfl,((Lk C (zF (r:=.list (σ.ops.map bk)) (p:=.list (ps.map eH)) (w0:=w)) I aZ Tn.F.o vR .nil).le (by omega)).mono ?_⟩
 (intro p;intro H';intro aj;refine aK aj ?_;clear aj;rintro rfl aS;refine cZ aS ?_;clear aS;rintro V2 ex rfl cO;refine aK cO ?_;clear cO;intro aba aaQ)
 have K2:mY σ V2:=⟨aba,aaQ⟩
 generalize hvv:v++[aF.aH []]=vv;have Dz:(vv++[aF.aH (cy V2)])[vv.length]? =ae (.aH (cy V2)):=by exact nL
 have aa7:(vv++[aF.aH (cy V2)])[w]? =ae (.aH (cy V)):=by
  have hw:=(bJ.mp Tn.hv).1;refine aa (ui (by(refine aQ ((hvv) ..) ?_;refine aa ((bS) ..) ?_);exact HW hw) ..) ?_;refine aQ (hvv ..) ?_;refine aa (ui hw ..) ?_;exact Tn.hv
 have CQ:(av (fdOf cells k) σ (T2 (.list (σ.ops.map bk)) (.list (ps.map eH)) w vv.length) (vv++[.aH (cy V2)]) (t++ex)).get (.s 19)=ae (.list (σ.ops.map bk)):=rfl;refine⟨rfl,?_⟩
 (with_reducible refine aD ?_;simp only[aE,be,cf,cc,fr,aC,fx,aT,gM,gs,gz,aG,cM,a0,aw])
 refine⟨by trivial,?_⟩;refine aa (tH CQ (bp _) ..) ?_;refine⟨UP hL kp b1,m2 (UQ kp b1) ?_⟩;refine aa (rK ..) ?_;rewrite[aw];refine n4 (f:=λp=>p) (c:=λU=>aq) (λx hx Q hq=>?_) (λx hx hc=>by exact ff hc) ?_ ?_ _ (λy=>rfl) λcG=>?_
 ·(refine ay (bH.mp hx) ?_;rintro n hn rfl)
  have hn:n<σ.ops.length:=er.mp hn;simp only[aR,bh,qt,cc,de,aC,a0,aT,aG,gs,gz,aw];refine⟨zF.nr rfl,(Fs C zF I (eE aZ hn) Dz).det (by omega) ?_⟩;refine⟨Ll.nr rfl,(Fs C (Ll (w1:=vv.length)) I (eE aZ hn) aa7).det (by omega) ?_⟩;refine aa (K2.same K I aZ hn ..) ?_;refine aa (u5 (K.vo.b _) (K.vo.b _) ..) ?_;refine aa (decide_eq_true rfl ..) ?_;exact hq
 ·(refine aa (bQ ..) ?_;refine aa (eZ ..) ?_;refine aa (jx ..) ?_);exact UR hL kp b1
 ·trivial
 ·(refine aa ((show(nats (bw σ.ops.length)).filter (λU=>aq)=[]from FP.mpr (λU U h=>by exact ff h)) ..) ?_;refine aa (ci ..) ?_)
  exact⟨_,rfl,cJ _,IZ (bu _ _ rfl)⟩
end
end
section
set_option maxHeartbeats 8000000
noncomputable def Kb(st:SharedT->qM->Option (SharedT×qM))(ok:qM->Bool)(d:Nat):SharedT->qM->Option (SharedT×qM):=
 @Nat.rec (λU=>SharedT->qM->Option (SharedT×qM))
   (λs t=> @Az (λU=>_) (@Az (λU=>_) ai (st s t) (ok t)) (ae (s,t)) (xw t))
   (λU g s t=>(g s t).bind λr=>g r.1 r.2) d
theorem ZC{tb:String->Option Builtin}{p:Program}{n₀:Nat}{ann:Option Value}:∀{d:Nat} {s s':SharedT} {t t':qM},Kb (stepT (denote tb) p w) (stepOk n₀ ann) d s t=ae (s',t')->∀{N:Nat} {r:aV},uy tb p w n₀ ann N s'.abs t'=ae r->uy tb p w n₀ ann (2^d+N) s.abs t=ae r:=by
 intro d;induction d with
 |zero=>
  intro s s' t t' h N r k;rw[Nat.pow_zero,Nat.add_comm];have h: @Az (λU=>_) (@Az (λU=>_) ai (stepT (denote tb) p w s t) (stepOk n₀ ann t)) (ae (s,t)) (xw t)=ae (s',t'):=h;cases e:xw t with
  |true=>
   rw[e]at h;cases h
   exact topRun_mono 1 _ _ _ _ k
  |false=>
   rw[e]at h;cases e2:stepOk n₀ ann t with
   |false=>rw[e2]at h;cases h
   |true=>
    rw[e2]at h;rw[uy,e,e2,stepT_spec h];exact k
 |succ d ih=>
  intro s s' t t' h N r k;obtain⟨⟨s1,t1⟩,h1,h2⟩:=OP.mp h;rw[F5,Nat.mul_two,Nat.add_assoc];exact ih h1 (ih h2 k)
noncomputable def J9(P:Params):BT:=((((((((((BT.nil.ins 0 (boot_o_0 P)).ins 1 (boot_o_1 P)).ins 2 (boot_o_2 P)).ins 3 (boot_o_3 P)).ins 4 (boot_o_4 P)).ins 5 (boot_o_5 P)).ins 6 (boot_o_6 P)).ins 7 (boot_o_7 P)).ins 8 (boot_o_8 P)).ins 9 (boot_o_9 P)).ins 10 (boot_o_10 P)
theorem ZA(P:Params):absHeap (J9 P) 11 {}=A6 P:=by kernel_rfl
noncomputable def Ka(t:BT)(n:Nat):Frag:=(bw n).filterMap λa=>((t.get a).bind alive).map λo=>(a,o)
theorem ZG{a:aL}{o:Obj}:∀{l:Frag},l.lookup a=ae o->(a,o)∈l:=by
 intro l;induction l with
 |nil=>intro h;cases h
 |cons x l ih=>
  intro h;rw[l6]at h;cases e:a==x.1 with
  |true=>
   rw[e]at h;rw[<-so h,eq_of_beq e];exact ca
  |false=>
   rw[e]at h;exact cI _ (ih h)
theorem ZB(t:BT)(n:Nat)(l:Life):(Ka t n).In (absHeap t n l):=λa o e=>by
 obtain⟨b,hb,x⟩:=Oq.mp (ZG e);obtain⟨o',h1,h2⟩:=i9.mp x;cases h2
 obtain⟨o2,h2,h3⟩:=OP.mp h1;rw[abs_get (er.mp hb) h2];exact h3
noncomputable def BI.gF:List BI:=[.len,.sorted,.tupleOf,.listOf,.range,.dictOf,.max,.sum,.intOf,.strOf]
noncomputable def y5(K:Frag):=
 (Fn.gF.map λf=>(pK K f (LZ f),f.cls.elim (nsIn K nT f.str) (λC=>qN K (.ref C.addr) f.str),isFn K (.ref f.addr),keepIn K (.ref f.addr)),
  Cl.gF.map λC=>(nsIn K nT C.str,keepIn K (.ref C.addr),plainGet K C.addr "",hasDictIn K C.addr,qN K (.ref C.addr) "__setattr__",plainOver K C.addr,makesIn K C.addr),
  Cl.gF.map λC=>At.gF.map λa=>(qN K (.ref C.addr) a.str,takerIn K C.addr a.str),
  BI.gF.map λb=>nsIn K nT b.str,nsIn K nT "set",qN K (.ref Cl.fG.addr) "__init__")
noncomputable def y7:=
 (Fn.gF.map λf=>(ag,ae (ae (sC f.addr)),ag,ag),
  Cl.gF.map λC=>(ae (ae (sC C.addr)),ag,ag,ag,ae (ae (GA "object.__setattr__")),ag,ag),
  Cl.gF.map λU=>At.gF.map λU=>(ae (ai:Option Value),ae (ai:Option Value)),
  BI.gF.map λU=>ae (ai:Option Value),ae (ai:Option Value),ae (ae (GA "object.__init__")))
theorem vD{α:Type}{β:Type}{l:List α}{F G:α->β}(h:l.map F=l.map G){x:α}(hx:x∈l):F x=G x:=List.map_inj_left.mp h x hx
abbrev mn:=uu.row.toRowW.1
noncomputable def y6:Program:=view mn [27]
noncomputable def y4:List Str:=mn.main.scope.names.map F7
noncomputable def J8(w:sD)(os:xt):SharedT:=⟨J9 w.params,11,{},#[],boot_drawn,boot_toks,os⟩
noncomputable def Dc(w:sD)(os:xt):=Kb (Fast.tw10156331382660048174 (Fast.tw11892475500146522536 Fast.tw14364793385576792824) mn w) (Fast.tw6613529449190102663 11 (ae (.ref 6))) 12 (J8 w os) (topStub mn)
theorem Kc(w:sD)(os:xt):(Dc w os).map (λr=>(xw r.2,staticsOk (GG mn.main.body) (A6 w.params) r.1.abs.heap&&namesBound mn r.1.abs.heap&&gensDone r.1.abs&&laidKept (A6 w.params) r.1.abs.heap,openSeen y6 y4 (GG mn.main.body) (λU=>ag) ag r.1.abs))=ae (ag,ag,openGood y6 y4):=by kernel_rfl
theorem ZE(w:sD)(os:xt):(Dc w os).map (λr=>y5 (Ka r.1.tree r.1.n))=ae y7:=by kernel_rfl
theorem ZF{p:Program}{ann:Option Value}{s₀ s₁:aV}{α:Type}{A:aV->α}{b:α}{Y:aV->Prop}(e:fencedOpening xF p w N=ae s₀)(a:(s₀.heap.isNs nT&&s₀.gens.size==0)=ag)(hb:s₀.heap.objs.size=m)(c:s₀.heap.nsMap nT "__annotations__"=ann)(r:uy xF p w m ann N s₀ (topStub p)=ae s₁)(d:(staticsOk (GG p.main.body) s₀.heap s₁.heap&&namesBound p s₁.heap&&gensDone s₁&&laidKept s₀.heap s₁.heap)=ag)(f:A s₁=b)(y:Y s₁):(openEnds xF p w N).map (λs=>(A s,Y s))=ae (b,True):=by
 subst hb;subst c;have t:topFrom xF p w N s₀=ae s₁:=by
  rw[topFrom,a,r];refine(?_:(match _ with|true=>_|false=>_)=_);rw[d]
 rw[openEnds,e,Option.bind_some,t,mc,f,eq_true y]
theorem ZD:LeftO mn y6 y4 (λU=>ag) (λs=>∃K,y5 K=y7/\K.In s.heap) (λU=>True) 4097:=by
 intro w;obtain⟨⟨h,gs,d,k,os⟩,e,e'⟩:=i9.mp (boot_open (p:=mn) (N:=4097) (by kernel_rfl) (by kernel_rfl) (λU=>by kernel_rfl) w);obtain⟨rfl,rfl,rfl,rfl⟩:h=A6 w.params/\gs= #[]/\d=boot_drawn/\k=boot_toks:=by simpa using e'
 obtain⟨⟨s,t⟩,g, -⟩:=i9.mp (Kc w os)
 have e1:=Kc w os;rw[g]at e1
 have e1:=so e1
 have e5:=ZE w os;rw[g]at e5;unfold Dc at g;rw[<-Fast.te10156331382660048174,<-Fast.te11892475500146522536,<-Fast.te14364793385576792824,<-Fast.te6613529449190102663]at g;have e2:xw t=ag:=congrArg F7 e1;have z:uy xF mn w 11 (ae (.ref 6)) 4097 (J8 w os).abs (topStub mn)=ae s.abs:=ZC g (N:=1) (by rw[uy,e2]);exact ZF (ann:=ae (.ref 6)) (m:=11) e (by kernel_rfl) (by kernel_rfl) (by kernel_rfl) ((ZA w.params).symm▸z) (congrArg (λx=>x.2.1) e1) (congrArg (λx=>x.2.2) e1) ⟨_,so e5,λU U=>ZB _ _ _ _ _⟩
theorem ZI:Fast.tw17960256430627541270 (Fast.tw2368527892694137696 uu)=ag:=by kernel_rfl
theorem ZH:uu.wellSaid=ag:=by
 rw[Fast.te9446332074065402090]
 iterate 17 refine NU.mpr ⟨?_,by kernel_rfl⟩
 exact NU.mpr ⟨ZI,by kernel_rfl⟩
theorem YQ:∀b:BI,bootBuiltins b.str=ae b.val:=by
 intro b;cases b<;>kernel_rfl
theorem YO:∀b:BI,b.str≠"__name__":=by
 intro b;cases b<;>decide+kernel
theorem YR:bootBuiltins "set"=ae (.type "set"):=by kernel_rfl
end
end Internal
set_option maxHeartbeats 8000000
open Internal in
set_option tactic.hygienic true in
theorem Internal.T:uu.Holds:=by
 refine holds_law ZH λaev=>?_;refine holds_open (q:=y6) (loose:=y4) (Xt:=λ_=>ag) (XP:=λ_ _=>True) (YP:=λ_ h=>∃K,Internal.y5 K=Internal.y7/\K.In h) ZD (λ_ _ e=>of_eq_true e) (λ_ _ _ ⟨K,a,b⟩ k=>⟨K,a,λ_ _ e=>k _ _ (b _ _ e)⟩) (λ_ _=>trivial) (λ_ _ _ _ _=>trivial) (by rfl) (by rfl) (by rfl) (λ_ _=>recFacts_nil rfl) rfl aev (by kernel_rfl) ⟨rfl,rfl,rfl,rfl,rfl,by decide+kernel⟩ ?hw ?_;case hw=>w_witness2
 intro w s₀ s₁ mg mb G Y fa o pm cd doc dV kV ho hd Zq hD Ku hg args vals as aaC Do aaH mx aaf;obtain⟨K,hk,KX⟩:=Y;simp only[y5,y7,OT]at hk;obtain⟨k1,k2,k3,k4,k5,k6⟩:=hk
 have hf:=λf:Fn=>vD k1 (eD f.kg)
 have hc:=λC:Cl=>vD k2 (eD C.kg)
 have ha:=λ(C:Cl) (a:At)=>vD (vD k3 (eD C.kg)) (eD a.kg);simp only[OT]at hf hc ha;clear ho hd Zq hD
 wrow_args aaC Do aaH mx aaf
 rename_i ns hs h1 h2 h3 h4 a5 a6 l vs a7 hl ra w1 r0 hI hr agV hc2
 clear hs h1 h2 h3 h4 hr hc2;have ZP:fa=Fn.mA.addr:=by
  have e:=mg_of KX G.T.g ((hf .mA).2.1)
  have e:=so (Ku.symm.trans e);injection e
 subst ZP;clear Ku;have O:cj ⟨uu.row.prog,w,K,s₁.heap,s₁.os,s₁.gens,mg,mb⟩:={
  K4:=KX
  nolimit:=G.T.nolimit
  size:=by
   have hk:∃o,K.lookup Fn.mA.addr=ae o:=by
    have:=(hf .mA).1;unfold pK at this;split at this
    ·exact⟨_,by assumption⟩
    ·cases this
   obtain⟨o,ho⟩:=hk;have:549<s₁.heap.objs.size:=cq (KX _ _ ho);refine(?_:3<=s₁.heap.objs.size);omega
  glob:=G.T.g
  blt:=G.T.b
  JO:=λf h=>mg_of KX G.T.g (by have:=(hf f).2.1;rw[h]at this;exact this)
  JG:=λC=>mg_of KX G.T.g ((hc C).1)
  CR:=λb=>⟨mg_none_of KX G.T.g (vD k4 (by cases b<;>repeat(first|exact .head _|apply List.Mem.tail):b∈BI.gF)),(G.T.builtins _ (YO b)).trans (YQ b)⟩
  JP:=⟨mg_none_of KX G.T.g (k5),(G.T.builtins _ (by decide+kernel)).trans YR⟩
  get:=λC=>(hc C).2.2
  attr:=ha
  EK:=λf C h=>by have:=(hf f).2.1;rw[h]at this;exact this
  zB:=λf=>(hf f).2.2
  Lm:=λC=>(hc C).2.1
  L9:=k6}
 have hlen:ns.length<=63:=by omega
 have key:=acd (eM.of ⟨O,λf _=>(hf f).1⟩) ((hf .mA).1) hlen;have R:aW ⟨uu.row.prog,w,K,s₁.heap,s₁.os,s₁.gens,mg,mb⟩ (λ_=>ai) ⟨[],[],[],[],[]⟩ s₁:={
  top:=λb o e=>e
  os:=rfl
  gens:=rfl
  inj:=λl l' a e=>by cases e
  off:=λl a e=>by cases e
  lo:=bj _
  obj:=λl po e=>by cases l<;>simp[HP.get]at e
  gU:=λl _ _=>rfl
  nz:=⟨0,λi _=>rfl⟩
  lU:=λi a e=>by cases e}
 have vN:aN (λ_=>ai) s₁.heap (.lst (cL ns)) (.ref l):=by
  obtain⟨o,ho,hc,n,hd⟩:=hl;cases w1 with
  |list e _=>
   rw[ho]at e;injection e with e;subst e;injection hd with hd _
   have fI:=congrArg Array.toList hd;dsimp only at fI;subst fI;exact⟨l,_,0,rfl,ho,λ_ h=>(by cases h),Ac hI⟩
 have aaI:cE 20 callerA:=⟨by decide,by decide,rfl⟩
 refine bP (ML aaI R (bf.one vN) key) (λv s' x=>?_) (λe s' x=>x.elim);obtain⟨p,az,H',R',hv,agX,rfl⟩:=x;have eA:v=.bool ag:=hv;subst eA;refine⟨.inl ⟨.bool ag,.bool ag,[],rfl,λcls=>rfl,.bool ag,?_,λ_=>⟨FX,λa h=>by cases h⟩⟩,.of_keep R'.top,R'.os,.of_eq ?_⟩
 ·kernel_rfl
 ·have:s'.gens=s₁.gens:=R'.gens
  rw[this,hg]
theorem PySem.Challenge.cw_pq0073_01_holds : PySem.Challenge.rw_pq0073_01.Holds :=
 Internal.T
