import PyProof.Rows.All
import Wide.All
import OpenK.AllK
import Wide.FinOn
import KE.KDictSum
import KE.KSortTup
import KE.KEqDat
import PySem.Challenge.RW_qd0028_01
noncomputable section
open Nat renaming le_trans→ao,le_of_ble_eq_true→aK,add_le_add_right→bH,le_of_eq→bM,le_add_right→bR,le_refl→cH,le_of_add_le_add_right→cQ,zero_le→eH,not_lt→eP,add_right_comm→fS,lt_irrefl→gJ,ne_of_lt→gK,le_antisymm→k7,ne_of_gt→nU,lt_succ_self→qb,lt_succ_of_lt→rd,le_succ→rm,not_le→ry,add_sub_cancel_left→um,le_of_lt→uE,sub_self→uG,sub_le→uN,lt_of_le_of_lt→yH,lt_of_lt_of_le→yI,succ_le_succ→yR,noConfusion→yV,succ→zZ,le_of_succ_le→CJ,min_eq_left→CU,add_assoc→De,succ_pos→Dh,lt_trans→Di,add_comm→Dk,mod_lt→DG,add_left_cancel→JQ,add_le_add_left→JS,sub_add_cancel→JY,min_le_right→J8,sub_lt_left_of_lt_add→TY,le_of_add_le_add_left→T6,exists_eq_add_of_le→Uh,le_of_succ_le_succ→Uq
open PySem renaming Value→au,wpAny_bind→aB,Shared→aE,Heap→aF,Addr→aI,wpAny→aY,wpAny_pure→a4,Expr→a6,model→ba,World→br,Program→bw,Around→bO,wpAny_holding→fA,wpAny_mono→fD,starEach→fW,isSubtype_type→gX,backTo→g9,mainGlobals→ic,standAt→ig,pyNext→ik,callEnvC→jd,rawInt→je,sysModules→jt,cellsFrom→ju,intKind→jP,codeAny→jQ,isTrue→jS,IsPair→km,wpAny_ite_split→kG,NameKind→kJ,wpAny_call_entry→kY,call_isinstance→k8,DictEntry→lR,PyData→lV,letOwnedTupleGo→mQ,wpAny_field→mS,sliceBounds→mT,pyIter→ng,wpAny_newObj_type→nP,FuncData→nX,wpAny_setField_rec→oP,wpAny_truthy_bool→oQ,wpAny_seqItems→oU,wpAny_standAt→oW,assignEach→o7,foldedSetIterable→qa,sizeLine_eq→qe,builtinsNs→qf,sliceRange→qg,pushCells→qi,compTurn→qk,valueAt→qo,wpAny_callSpecial?_slot→q5,attributeBase→rj,plainId_quiet→rk,wpAny_rule→rt,codeAny_builtin→sj,wpAny_typeOf→sq,codeAny_mono→sr,wpAny_call→sC,seqIndex?→sF,bindArgs→sL,sizeLine→sM,SetTable→sN,builtinLookup_eq_fast→uq,wpAny_askSetting→uv,typeLookup_type→uz,intKind_is→uM,swapsWith→uO,compareOp→uP,setState→u0,IsRange→vc,getItem→vd,importedModules→wt,Comprehension→wD,wpAny_attempt→wF,valueOrNone→wK,codeAny_call_builtin→yB,wpAny_isInstance→yP,wpAny_updateSeq→yW,swappedStores→y8,strKind_is→zz,isInstance→zA,call_meets→zB,setEntries→zC,typeLookup→zD,treeTable→zL,pickOrder→zO,wpAny_pyIter_tuple→CA,getattributeRaised→CD,wpAny_pyIter_list→CH,wpAny_execs_nil→CR,isinstance_true→CV,codeAny_of_tree→CX,letTemporaryGo→C3,wpAny_fieldsOf→C4,behindInMarks→C9,swapsWithSole→Dc,setSearchFrom→Dd,bootBuiltins→Dg,keywordEach→Ds,IsRangeIter→Dt,wpAny_of_eq→Du,isinstance_false_list→JF,isinstance_false_str→JM,wpAny_tupleItemsOf→JW,ofAClassStatement→J2,searchCouldBeSeen→J3,wpAny_pyIter_zip→Ka,wpAny_forIn_list→Kb,wpAny_eqBool_int→Kc,pushCells_keeps→Kl,wpAny_specialOf→Km,typeOf→KU
open List renaming length_map→bB,getElem?_eq_getElem→cF,mem_cons→cG,range→dK,mem_map→dR,getElem?_map→eM,getD_eq_getElem?_getD→eX,getElem?_eq_some_iff→fe,not_mem_nil→ff,mem_singleton→fz,all_eq_true→fU,append_nil→gy,mem_range→gW,mem_filter→ib,length_cons→jb,getElem?_append_left→jn,append_assoc→jo,map_cons→jq,replicate→jI,getElem?_set_self→j9,lookup_cons→ke,mem_cons_of_mem→kF,map_map→kH,length_set→kZ,mem_of_getElem?→lM,getElem?_append_right→mJ,mem_cons_self→mM,getElem_mem→mN,map_append→mO,length_nil→nR,filter_eq_nil_iff→oM,getElem?_set_ne→oN,length_append→oO,getElem?_eq_none→p7,length_filter_le→p8,take_length→qc,map_eq_nil_iff→q8,length_range→q9,forall_mem_cons→r9,pairwise_cons→sf,size_toArray→si,length→su,lookup→sx,ext_getElem?→uu,mem_append→uy,take_left→uA,any_cons→uD,set_set→uH,getElem?_mapIdx→wi,mem_flatMap→wm,any_eq_true→wq,find?_cons→wu,forIn_cons→wy,all_cons→wC,map_congr_left→yE,filter_eq_self→yG,any_eq_false→yO,getElem_map→yS,map_id'→zg,pairwise_iff_getElem→Cc,getElem?_of_mem→Cv,filterMap_cons→Cz,flatMap_cons→CM,length_take→CO,map_nil→Dj,drop_eq_getElem_cons→Jm,mem_or_eq_of_mem_set→Jn,length_eq_zero_iff→Jv,drop_eq_nil_of_le→JC,set_append_right→JH,mem_iff_getElem→JN,length_pos_iff→JT,map_inj_left→J4,toArray→KV,getLast?_eq_some_getLast→TL,exists_mem_of_ne_nil→T7,getElem?_take_of_lt→T9,length_filterMap_le→Uc,idxOf?_eq_none_iff→Ud,idxOf?_eq_some_iff→Ue,pairwise_singleton→Ug,not_all_eq_any_not→Ui,getElem?_cons_succ→Uj,length_eq_one_iff→Up,getElem?_zipWith→Uu,take_append_drop→Uv
open PySem.Value renaming ref→bD,str→eQ,type→fV,none→lh,isInt_shape→lN,int→lS,isInt→mU,isStrOf_shape→q7,isStrOf→rl,builtin→uC,bool→DF
open PySem.Heap renaming get?_push_of_some→cR,lt_size→dy,get?_push_size→fP,size_push→gY,get?_update_other→r8,SameBut→uF,ExtBut→uJ,get?_update_self→yA,get?_update_ne→yD
open Option.some renaming inj→c8,injEq→CK
open PySem.SetTable renaming bits→dP,below→jc,insertAt→ur,Probe→y0,fill→KD
open Int renaming le_of_lt→dS,ofNat_lt→gg,lt_of_lt_of_le→gV,lt_of_le_of_lt→i9,ofNat_le→jJ,not_lt→lQ,lt_trans→oX,le_trans→oY,natCast_nonneg→sa,max_eq_right→wo,add_sub_cancel→yJ,zero_add→zf,le_refl→Dv,toNat_of_nonneg→JR,toNat_natCast→J1,min_eq_right→J9
open PyProof.Rows renaming none_at_size→fR,seqObj→oh,eq_str→oi,in_str→qr,args_cons→sE,pairsOf→sX,args_nil→uY,tail_any→uZ,get?_update_seq→CZ
open Array renaming length_toList→gw,getElem?_toList→gI,getElem?_eq_getElem→uk,getElem?_eq_none→uo,size_push→CW,forIn_toList→JX,toList_push→J0,getElem?_eq_some_iff→TR,isEmpty_eq_false_iff→TU
open Bool renaming and_eq_true_iff→h8,and_eq_true→ia,not_eq_true'→rf,or_eq_true→uw,false_and→uB,false_ne_true→wj,eq_iff_iff→yX,false_or→y9,true_and→zc,false_eq_true→CC,or_eq_false_iff→JO,not_eq_true→Kd,decide_and→Kn,and_false→Ku,or_false→KG,beq_eq_decide_eq→Uw
open PySem.Builtin.Slice renaming sliceAdjust→i8,slicePlaces→r7
open PySem.NameKind renaming free→jr,cell→wB
open PySem.W renaming findIn→jy,restOf→og,callWith_of→o6,hashAt→qp,kas_sort→wZ,boot_heap→zK,hasDictIn→zM
open PySem.F renaming called_set→kI,plain_extend_loop→Cd,slot_dict_get→Cs,slot_zip_next→CY,slot_list_getattribute→Jp,slot_zip_getattribute→Jw,slot_range_contains→JG,slot_tuple_iterator_next→TS,slot_list_extend→Ua,entry_dict_get→Uo
open Option renaming map_some→k9,bind_eq_some_iff→mK,map→sD,isSome→wA,eq_none_iff_forall_ne_some→yy,getD_some→yQ,bind_assoc→CG,bind→Dq,map_eq_some_iff→JA,filter_eq_some_iff→TZ,isSome_iff_exists→T8
open PySem.Str renaming ofString→lg,ofString_eq_toList→JB
open PySem.PyData renaming eqv→lP,strOk→mR,keyHash→wz,tuple→wI,list→wL
open List.cons renaming inj→nS,injEq→wx
open PySem.Obj renaming mapSeq→nW
open LT renaming lt→pI
open PySem.Value.ref renaming inj→qd
open Prod.mk renaming injEq→ri,inj→Dp
open PySem.IsL renaming isList→rq
open Ne renaming symm→sW
open ForInStep renaming yield→ux
open PySem.Data renaming seq→uX,dict→wR
open PySem.Builtin.Range renaming rangeSize→wh,rangePlace?→Jl,small→JP
open PySem.SetTable.probe renaming go→wk
open PySem.Shared renaming TypeIs→wG
open Prod renaming snd→wY,fst→z0
open PySem.Builtin.SmallTypes renaming nextOf→yz,ownedTupleIsFree→TJ
open PySem.Heap.SameBut renaming update→yF
open Classical renaming not_not→yN
open And renaming intro→zN
open PySem.Builtin.List renaming listSameRef→Ce,listExtendWith→TP,listLengthHint→TQ
open PySem.Builtin.Tuple renaming tupleExact→Cf
open PySem.Builtin renaming «object.__getattribute__»→Jh,«set.__init__»→Ub,«dict_keyiterator.__iter__»→afy,«set_iterator.__next__»→afz,«dict.update.loop»→afA
open PySem.SetTable.instReprSlot.repr renaming match_1→Ji
open PySem.Value.type renaming inj→Kt
open PySem.Challenge renaming rw_qd0028_01→TM
open PySem.Builtin.Frozenset renaming updateFrom→TN
open List.Pairwise renaming nil→UE
open PySem.DictEntry renaming refKey→UJ
open PySem.Heap.DictOf renaming new→UQ
open PySem PySem.W PyProof.Rows PySem.Calls
set_option maxRecDepth 100000
set_option Elab.async false
set_option linter.all false
set_option compiler.extract_closed false
set_option tactic.hygienic false
namespace Mine
abbrev aP:=@if_pos
abbrev aS:=@if_neg
abbrev bN:=@decide_eq_true
abbrev bT:=@decide_eq_false
abbrev fQ:=@of_decide_eq_true
abbrev bP:=@absurd
abbrev bV:=@congrArg
abbrev eF:=@beq_iff_eq
abbrev h9:=@decide_eq_true_iff
abbrev ja:=@decide_eq_true_eq
abbrev lL:=@decide_eq_false_iff_not
abbrev kc:=@beq_eq_false_iff_ne
abbrev fg:=@or_false
abbrev nQ:=@beq_self_eq_true
abbrev rg:=@decide_eq_decide
@[elab_as_elim] theorem rwG{α:Sort u}{a b:α}{motive:α→Prop}(h:a=b)(m:motive b):motive a:=h▸m
@[elab_as_elim] theorem rwB{α:Sort u}{a b:α}{motive:α→Prop}(h:b=a)(m:motive b):motive a:=h▸m
local macro_rules | `(tactic| rewrite [$t:term]) => `(tactic| first | refine rwG $t ?_ | fail)
local macro_rules | `(tactic| rewrite [← $t:term]) => `(tactic| first | refine rwB $t ?_ | fail)
local macro_rules | `(tactic| rewrite [$a, $b,*]) => `(tactic| (rewrite [$a]; rewrite [$b,*]))
variable{β γ:Type}
section
universe xB A9 G4 P1 aej afF
variable{G:Prop}
variable{p q r s t u v w:Prop}
theorem cM(h:p∧q)(k:p→q→G):G:=k h.1 h.2
theorem pJ(h:p∧q∧r)(k:p→q→r→G):G:=cM h λx h=>cM h (k x)
theorem xC(h:p∧q∧r∧s)(k:p→q→r→s→G):G:=cM h λx h=>pJ h (k x)
theorem vr(h:p∧q∧r∧s∧t)(k:p→q→r→s→t→G):G:=cM h λx h=>xC h (k x)
theorem G5(h:p∧q∧r∧s∧t∧u)(k:p→q→r→s→t→u→G):G:=cM h λx h=>vr h (k x)
theorem P2(h:p∧q∧r∧s∧t∧u∧v)(k:p→q→r→s→t→u→v→G):G:=cM h λx h=>G5 h (k x)
theorem aek(h:p∧q∧r∧s∧t∧u∧v∧w)(k:p→q→r→s→t→u→v→w→G):G:=cM h λx h=>P2 h (k x)
section
variable{a:Sort xB}{p q r s t u v w:a→Prop}
theorem bG(h:∃x,p x)(k:∀x,p x→G):G:=h.elim k
theorem aT(h:∃x,p x∧q x)(k:∀x,p x→q x→G):G:=h.elim λx h=>cM h (k x)
theorem cY(h:∃x,p x∧q x∧r x)(k:∀x,p x→q x→r x→G):G:=h.elim λx h=>pJ h (k x)
theorem l5(h:∃x,p x∧q x∧r x∧s x)(k:∀x,p x→q x→r x→s x→G):G:=h.elim λx h=>xC h (k x)
theorem P4(h:∃x,p x∧q x∧r x∧s x∧t x)(k:∀x,p x→q x→r x→s x→t x→G):G:=h.elim λx h=>vr h (k x)
theorem xD(h:∃x,p x∧q x∧r x∧s x∧t x∧u x)(k:∀x,p x→q x→r x→s x→t x→u x→G):G:=h.elim λx h=>G5 h (k x)
theorem ael(h:∃x,p x∧q x∧r x∧s x∧t x∧u x∧v x)(k:∀x,p x→q x→r x→s x→t x→u x→v x→G):G:=h.elim λx h=>P2 h (k x)
theorem aem(h:∃x,p x∧q x∧r x∧s x∧t x∧u x∧v x∧w x)(k:∀x,p x→q x→r x→s x→t x→u x→v x→w x→G):G:=h.elim λx h=>aek h (k x)
end
section
variable{a:Sort xB}{b:Sort A9}{p q r s t u v w:a→b→Prop}
theorem gM(h:∃x y,p x y)(k:∀x y,p x y→G):G:=h.elim λx h=>bG h (k x)
theorem gD(h:∃x y,p x y∧q x y)(k:∀x y,p x y→q x y→G):G:=h.elim λx h=>aT h (k x)
theorem tx(h:∃x y,p x y∧q x y∧r x y)(k:∀x y,p x y→q x y→r x y→G):G:=h.elim λx h=>cY h (k x)
theorem jV(h:∃x y,p x y∧q x y∧r x y∧s x y)(k:∀x y,p x y→q x y→r x y→s x y→G):G:=h.elim λx h=>l5 h (k x)
theorem xE(h:∃x y,p x y∧q x y∧r x y∧s x y∧t x y)(k:∀x y,p x y→q x y→r x y→s x y→t x y→G):G:=h.elim λx h=>P4 h (k x)
theorem aen(h:∃x y,p x y∧q x y∧r x y∧s x y∧t x y∧u x y)(k:∀x y,p x y→q x y→r x y→s x y→t x y→u x y→G):G:=h.elim λx h=>xD h (k x)
theorem aeo(h:∃x y,p x y∧q x y∧r x y∧s x y∧t x y∧u x y∧v x y)(k:∀x y,p x y→q x y→r x y→s x y→t x y→u x y→v x y→G):G:=h.elim λx h=>ael h (k x)
theorem aep(h:∃x y,p x y∧q x y∧r x y∧s x y∧t x y∧u x y∧v x y∧w x y)(k:∀x y,p x y→q x y→r x y→s x y→t x y→u x y→v x y→w x y→G):G:=h.elim λx h=>aem h (k x)
end
section
variable{a:Sort xB}{b:Sort A9}{c:Sort G4}{p q r s t u v w:a→b→c→Prop}
theorem rF(h:∃x y z,p x y z)(k:∀x y z,p x y z→G):G:=h.elim λx h=>gM h (k x)
theorem ku(h:∃x y z,p x y z∧q x y z)(k:∀x y z,p x y z→q x y z→G):G:=h.elim λx h=>gD h (k x)
theorem oy(h:∃x y z,p x y z∧q x y z∧r x y z)(k:∀x y z,p x y z→q x y z→r x y z→G):G:=h.elim λx h=>tx h (k x)
theorem pK(h:∃x y z,p x y z∧q x y z∧r x y z∧s x y z)(k:∀x y z,p x y z→q x y z→r x y z→s x y z→G):G:=h.elim λx h=>jV h (k x)
theorem aeq(h:∃x y z,p x y z∧q x y z∧r x y z∧s x y z∧t x y z)(k:∀x y z,p x y z→q x y z→r x y z→s x y z→t x y z→G):G:=h.elim λx h=>xE h (k x)
theorem aer(h:∃x y z,p x y z∧q x y z∧r x y z∧s x y z∧t x y z∧u x y z)(k:∀x y z,p x y z→q x y z→r x y z→s x y z→t x y z→u x y z→G):G:=h.elim λx h=>aen h (k x)
theorem aes(h:∃x y z,p x y z∧q x y z∧r x y z∧s x y z∧t x y z∧u x y z∧v x y z)(k:∀x y z,p x y z→q x y z→r x y z→s x y z→t x y z→u x y z→v x y z→G):G:=h.elim λx h=>aeo h (k x)
theorem P5(h:∃x y z,p x y z∧q x y z∧r x y z∧s x y z∧t x y z∧u x y z∧v x y z∧w x y z)(k:∀x y z,p x y z→q x y z→r x y z→s x y z→t x y z→u x y z→v x y z→w x y z→G):G:=h.elim λx h=>aep h (k x)
end
section
variable{a:Sort xB}{b:Sort A9}{c:Sort G4}{d:Sort P1}{p q r s t u v w:a→b→c→d→Prop}
theorem G6(h:∃x y z x1,p x y z x1)(k:∀x y z x1,p x y z x1→G):G:=h.elim λx h=>rF h (k x)
theorem xF(h:∃x y z x1,p x y z x1∧q x y z x1)(k:∀x y z x1,p x y z x1→q x y z x1→G):G:=h.elim λx h=>ku h (k x)
theorem Ba(h:∃x y z x1,p x y z x1∧q x y z x1∧r x y z x1)(k:∀x y z x1,p x y z x1→q x y z x1→r x y z x1→G):G:=h.elim λx h=>oy h (k x)
theorem G7(h:∃x y z x1,p x y z x1∧q x y z x1∧r x y z x1∧s x y z x1)(k:∀x y z x1,p x y z x1→q x y z x1→r x y z x1→s x y z x1→G):G:=h.elim λx h=>pK h (k x)
theorem P6(h:∃x y z x1,p x y z x1∧q x y z x1∧r x y z x1∧s x y z x1∧t x y z x1)(k:∀x y z x1,p x y z x1→q x y z x1→r x y z x1→s x y z x1→t x y z x1→G):G:=h.elim λx h=>aeq h (k x)
theorem G8(h:∃x y z x1,p x y z x1∧q x y z x1∧r x y z x1∧s x y z x1∧t x y z x1∧u x y z x1)(k:∀x y z x1,p x y z x1→q x y z x1→r x y z x1→s x y z x1→t x y z x1→u x y z x1→G):G:=h.elim λx h=>aer h (k x)
theorem aet(h:∃x y z x1,p x y z x1∧q x y z x1∧r x y z x1∧s x y z x1∧t x y z x1∧u x y z x1∧v x y z x1)(k:∀x y z x1,p x y z x1→q x y z x1→r x y z x1→s x y z x1→t x y z x1→u x y z x1→v x y z x1→G):G:=h.elim λx h=>aes h (k x)
end
section
variable{a:Sort xB}{b:Sort A9}{c:Sort G4}{d:Sort P1}{e:Sort aej}{p q r s t u v w:a→b→c→d→e→Prop}
theorem Bb(h:∃x y z x1 y1,p x y z x1 y1∧q x y z x1 y1∧r x y z x1 y1)(k:∀x y z x1 y1,p x y z x1 y1→q x y z x1 y1→r x y z x1 y1→G):G:=h.elim λx h=>Ba h (k x)
theorem aeu(h:∃x y z x1 y1,p x y z x1 y1∧q x y z x1 y1∧r x y z x1 y1∧s x y z x1 y1∧t x y z x1 y1∧u x y z x1 y1∧v x y z x1 y1)(k:∀x y z x1 y1,p x y z x1 y1→q x y z x1 y1→r x y z x1 y1→s x y z x1 y1→t x y z x1 y1→u x y z x1 y1→v x y z x1 y1→G):G:=h.elim λx h=>aet h (k x)
end
theorem dA{α:Type}{a:α}(e:some a=none):G:=by cases e
theorem aQ{α:Type}{a:α}(e:none=some a):G:=by cases e
theorem pL(e:true=false):G:=by cases e
theorem cL(e:false=true):G:=by cases e
theorem cj{α:Type}{a a':α}(e:some a=some a')(k:a=a'→G):G:=k (c8 e)
theorem cw{α:Type}{a a':α}{b b':β}(e:some (a,b)=some (a',b'))(k:a=a'→b=b'→G):G:=by cases e;exact k rfl rfl
theorem iK{α:Type}{a a':α}{b b':β}{c c':γ}(e:some (a,b,c)=some (a',b',c'))(k:a=a'→b=b'→c=c'→G):G:=by cases e;exact k rfl rfl rfl
theorem c4{α:Type}{o:Option α}{f:α→Option β}{r:β}(e:o.bind f=some r)(k:∀a,o=some a→f a=some r→G):G:=by
 cases o with
 |none=>cases e
 |some a=>exact k a rfl e
theorem cy{α:Type}{o:Option (α×β)}{f:α×β→Option γ}{r:γ}(e:o.bind f=some r)(k:∀a b,o=some (a,b)→f (a,b)=some r→G):G:=c4 e λa h1 h2=>k a.1 a.2 h1 h2
theorem vL{α δ:Type}{o:Option (α×β×γ)}{f:α×β×γ→Option δ}{r:δ}(e:o.bind f=some r)(k:∀a b c,o=some (a,b,c)→f (a,b,c)=some r→G):G:=c4 e λa h1 h2=>k a.1 a.2.1 a.2.2 h1 h2
theorem nG{α:Type}{o:Option α}(e:o.isSome=true)(k:∀a,o=some a→G):G:=by
 cases o with
 |none=>cases e
 |some a=>exact k a rfl
theorem iX{α:Type}{o:Option α}{f:α→β}{r:β}(e:o.map f=some r)(k:∀a,o=some a→f a=r→G):G:=by
 cases o with
 |none=>cases e
 |some a=>exact k a rfl (c8 e)
end
noncomputable abbrev S(x:String):Str:=lg x
inductive PV where
 |none
 |bool (b:Bool)
 |int (i:Int)
 |str (s:String)
 |tup (l:List PV)
 |lst (l:List PV)
 |d7 (a b:Int)
 |loc (n:Nat)
 deriving Inhabited
inductive PO where
 |list (l:List PV)
 |aU (l:List (Int×PV))
 |cZ (l:List (String×PV))
 |inst (C:Nat) (l:List (String×PV))
 |c7
 deriving Inhabited
noncomputable abbrev TK:=Nat×Drawn
noncomputable abbrev Al:=List (aI×aI)
noncomputable abbrev ah:=List PO
noncomputable abbrev aO:=String→Option PV
noncomputable def own(α:Al):List aI:=α.flatMap λp=> [p.1,p.2]
theorem nY{α:Al}{a:aI}:a∈own α↔∃p∈α,a=p.1∨a=p.2:=by
 simp[own,wm]
theorem mV{α β:Al}{a:aI}:a∈own (α++β)↔a∈own α∨a∈own β:=by
 simp[own,List.flatMap_append]
mutual
inductive RV(h:aF)(α:Al):au→PV→Prop
 |none:RV h α .none .none
 |bool (b:Bool):RV h α (.bool b) (.bool b)
 |int (i:Int) (t:Tok):RV h α (.int i t) (.int i)
 |str (x:String) (t:Tok):mR (S x)=true→RV h α (.str (S x) t) (.str x)
 |tup {a:aI} {vs:Array au} {n:Nat} {ps:List PV}:IsT h a vs n→a∉own α→a7 h α vs.toList ps→RV h α (.ref a) (.tup ps)
 |lst {a:aI} {vs:Array au} {n:Nat} {ps:List PV}:IsL h a vs n→a∉own α→a7 h α vs.toList ps→RV h α (.ref a) (.lst ps)
 |d7 {a:aI} {x y:Int} {t u v:Tok}:vc h a x y 1 t u v→a∉own α→RV h α (.ref a) (.d7 x y)
 |loc {a b:aI} {n:Nat}:α[n]? =some (a,b)→RV h α (.ref a) (.loc n)
inductive a7(h:aF)(α:Al):List au→List PV→Prop
 |nil:a7 h α [] []
 |cons {v:au} {p:PV} {vs:List au} {ps:List PV}:RV h α v p→a7 h α vs ps→a7 h α (v::vs) (p::ps)
end
variable{ps:List PV}
section
variable{h:aF}{α:Al}{v:au}{vs:List au}{G:Prop}
theorem RV.iN(V:RV h α v .none)(k:v= .none→G):G:=by cases V;exact k rfl
theorem RV.iB{b:Bool}(V:RV h α v (.bool b))(k:v= .bool b→G):G:=by cases V;exact k rfl
theorem RV.iI{i:Int}(V:RV h α v (.int i))(k:∀t,v= .int i t→G):G:=by cases V;exact k _ rfl
theorem RV.iS{x:String}(V:RV h α v (.str x))(k:∀t,v= .str (S x) t→mR (S x)=true→G):G:=by cases V;exact k _ rfl ‹_›
theorem RV.iT(V:RV h α v (.tup ps))(k:∀a (vs:Array au) (n:Nat),v= .ref a→IsT h a vs n→a∉own α→a7 h α vs.toList ps→G):G:=by cases V;exact k _ _ _ rfl ‹_› ‹_› ‹_›
theorem RV.iL(V:RV h α v (.lst ps))(k:∀a (vs:Array au) (n:Nat),v= .ref a→IsL h a vs n→a∉own α→a7 h α vs.toList ps→G):G:=by cases V;exact k _ _ _ rfl ‹_› ‹_› ‹_›
theorem RV.iR{x y:Int}(V:RV h α v (.d7 x y))(k:∀a t u w,v= .ref a→vc h a x y 1 t u w→a∉own α→G):G:=by cases V;exact k _ _ _ _ rfl ‹_› ‹_›
theorem RV.iO{n:Nat}(V:RV h α v (.loc n))(k:∀a b,v= .ref a→α[n]? =some (a,b)→G):G:=by cases V;exact k _ _ rfl ‹_›
theorem a7.iN(V:a7 h α vs [])(k:vs= []→G):G:=by cases V;exact k rfl
theorem a7.iC{p:PV}(V:a7 h α vs (p::ps))(k:∀v tV,vs=v::tV→RV h α v p→a7 h α tV ps→G):G:=by cases V;exact k _ _ rfl ‹_› ‹_›
theorem a7.jN(V:a7 h α [] ps)(k:ps= []→G):G:=by cases V;exact k rfl
theorem a7.jC(V:a7 h α (v::vs) ps)(k:∀p qG,ps=p::qG→RV h α v p→a7 h α vs qG→G):G:=by cases V;exact k _ _ rfl ‹_› ‹_›
theorem a7.i1{p:PV}(V:a7 h α vs [p])(k:∀v,vs= [v]→RV h α v p→G):G:=a7.iC V λv tV e a b=>a7.iN b λe2=>k v (e2▸e) a
end
variable{vs:List au}{i:Nat}{v:au}
section
variable{h:aF}{α:Al}{ps qs:List PV}
theorem a7.length:∀{vs:List au},a7 h α vs ps→vs.length=ps.length:=by
 induction ps with
 |nil=>exact λV=>V.iN λz=>z▸rfl
 |cons p ps ih=>exact λV=>V.iC λv vs z y r=>z▸bV zZ (ih r)
theorem a7.get{p:PV}:∀{vs:List au},a7 h α vs ps→∀{i:Nat},ps[i]? =some p→∃v,vs[i]? =some v∧RV h α v p:=by
 induction ps with
 |nil=>exact λ{_} _ {_} e=>aQ e
 |cons q ps ih=>exact λ{_} V {i} e=>V.iC λv vs z a r=>z▸(match i,e with
  |0,e=>⟨v,rfl,c8 e▸a⟩
  |i+1,e=>ih r (i:=i) e)
theorem a7.app{ws:List au}(k:a7 h α ws qs):∀{vs:List au},a7 h α vs ps→a7 h α (vs++ws) (ps++qs):=by
 induction ps with
 |nil=>exact λV=>V.iN λz=>z▸k
 |cons p ps ih=>exact λV=>V.iC λv vs z a r=>z▸ .cons a (ih r)
theorem a7.append{ws:List au}(V:a7 h α vs ps)(k:a7 h α ws qs):a7 h α (vs++ws) (ps++qs):=a7.app k V
theorem a7.get'(r:a7 h α vs ps)(e:vs[i]? =some v):∃p,ps[i]? =some p∧RV h α v p:=by
 have hi:i<ps.length:=r.length▸(fe.mp e).1;exact aT (r.get (cF hi)) λw e1 e2=>⟨_,cF hi,c8 (e.symm.trans e1)▸e2⟩
theorem a7.reverse:∀{vs:List au},a7 h α vs ps→a7 h α vs.reverse ps.reverse:=by
 induction ps with
 |nil=>exact λV=>V.iN λz=>z▸ .nil
 |cons p ps ih=>exact λV=>V.iC λv vs z a r=>z▸(by
  rw[List.reverse_cons,List.reverse_cons];exact(ih r).append (.cons a .nil))
end
structure cp(L:aI)(h h':aF)(α aD:Al):Prop where
 keep:∀a o,h.get? a=some o→a∉own α→a≠L→h'.get? a=some o
 ns:∀m,h.Ns L m→h'.Ns L m
 pre:∃β,aD=α++β
 fresh:∀a∈own aD,a∈own α∨(h.get? a=none∧a≠L)
theorem cp.refl(L:aI)(h:aF)(α:Al):cp L h h α α:=
 ⟨λz z e z z=>e,λz e=>e,⟨[],by simp⟩,λz e=> .inl e⟩
variable{h':aF}{aD:Al}{o:Obj}
theorem cp.mZ{L:aI}{h:aF}{α:Al}(X:cp L h h' α aD){a:aI}(e:h.get? a=some o)(n:a∉own α):a∉own aD:=λq=>by
 rcases X.fresh a q with q|q
 ·exact n q
 ·rw[q.1]at e;cases e
theorem cp.trans{L:aI}{h pM pN:aF}{α rE qt:Al}(X:cp L h pM α rE)(Y:cp L pM pN rE qt):cp L h pN α qt where
 keep a o e n l:=Y.keep a o (X.keep a o e n l) (X.mZ e n) l
 ns m e:=Y.ns m (X.ns m e)
 pre:=by
  obtain⟨β,rfl⟩:=X.pre;obtain⟨γ,rfl⟩:=Y.pre;exact⟨β++γ,by simp⟩
 fresh a q:=by
  rcases Y.fresh a q with q|⟨q,l⟩
  ·exact X.fresh a q
  ·by_cases n:a∈own α
   ·exact .inl n
   ·right;refine⟨?_,l⟩;cases e:h.get? a with
    |none=>rfl
    |some o=>rw[X.keep a o e n l]at q;cases q
structure Kp(L:aI)(h h':aF):Prop where
 keep:∀a o,h.get? a=some o→a≠L→h'.get? a=some o
 ns:∀m,h.Ns L m→h'.Ns L m
theorem Kp.of{L:aI}{h:aF}(k:∀a o,h.get? a=some o→h'.get? a=some o):Kp L h h':=⟨λa o e z=>k a o e,λz e=>e.keeps k⟩
theorem Kp.push(L:aI)(h:aF)(o:Obj):Kp L h (h.push o):=Kp.of λz z e=>cR _ e
theorem Kp.ext{L:aI}{h:aF}(x:Kp L h h')(α:Al):cp L h h' α α:=⟨λa o e z l=>x.keep a o e l,x.ns,⟨[],by simp⟩,λz e=> .inl e⟩
def Obj.gh(o:Obj):Prop:=match o.data with
 | .seq .. =>False
 | .fields .. =>o.cls≠ .type "range"
 |_=>True
theorem sG{h:aF}{L:aI}(N:∃m,h.Ns L m)(e:h.get? L=some o):Obj.gh o:=N.elim λm N=>by
 refine oy (N) λo' es ep h1 h2 y=> ?_;rw[h1]at e;exact cj e λz=>z▸(by unfold Obj.gh;rw[h2];trivial)
theorem Vt{h:aF}{L:aI}{m:Str→Option au}{v:Option au}(N:h.Ns L m)(e:h.IsCell L v):False:=by
 refine oy (N) λo es ep h1 h2 z=> ?_;refine aT (e) λo' e1 e2=> ?_;rw[h1]at e1;cases e1;rw[h2]at e2;cases e2
theorem RV.map{h:aF}{α:Al}(k:∀a o,h.get? a=some o→¬Obj.gh o→a∉own α→h'.get? a=some o∧a∉own aD)(kl:∀(n:Nat) a b,α[n]? =some (a,b)→aD[n]? =some (a,b)):(∀v p,RV h α v p→RV h' aD v p)∧∀vs ps,a7 h α vs ps→a7 h' aD vs ps:=by
 have mt:∀{a:aI} {vs:Array au} {n:Nat} {ps:List PV},IsT h a vs n→a∉own α→a7 h α vs.toList ps→a7 h' aD vs.toList ps→RV h' aD (.ref a) (.tup ps):=λht hn w r=>have K:=k _ _ ht id hn; .tup K.1 K.2 r;have ml:∀{a:aI} {vs:Array au} {n:Nat} {ps:List PV},IsL h a vs n→a∉own α→a7 h α vs.toList ps→a7 h' aD vs.toList ps→RV h' aD (.ref a) (.lst ps):=λht hn w r=>have K:=k _ _ ht id hn; .lst K.1 K.2 r;have mr:∀{a:aI} {x y:Int} {t u v:Tok},vc h a x y 1 t u v→a∉own α→RV h' aD (.ref a) (.d7 x y):=λht hn=>have K:=k _ _ ht (λz=>z rfl) hn; .d7 K.1 K.2;have mo:∀{a b:aI} {n:Nat},α[n]? =some (a,b)→RV h' aD (.ref a) (.loc n):=λe=> .loc (kl _ _ _ e);exact⟨λv p V=>RV.rec (motive_1:=λv p w=>RV h' aD v p) (motive_2:=λvs ps w=>a7 h' aD vs ps) .none .bool .int .str mt ml mr mo .nil (λw w a b=> .cons a b) V,
  λvs ps V=>a7.rec (motive_1:=λv p w=>RV h' aD v p) (motive_2:=λvs ps w=>a7 h' aD vs ps) .none .bool .int .str mt ml mr mo .nil (λw w a b=> .cons a b) V⟩
theorem cp.get{L:aI}{h:aF}{α:Al}(X:cp L h h' α aD)(n:Nat)(a b:aI)(e:α[n]? =some (a,b)):aD[n]? =some (a,b):=X.pre.elim λβ z=>z▸(jn (fe.mp e).1).trans e
theorem RV.zP{L:aI}{h:aF}{α:Al}(X:cp L h h' α aD)(N:∃m,h.Ns L m):(∀v p,RV h α v p→RV h' aD v p)∧∀vs ps,a7 h α vs ps→a7 h' aD vs ps:=
 RV.map (λa o e nv n=>⟨X.keep a o e n λq=>nv (sG N (q▸e)),X.mZ e n⟩) X.get
theorem RV.ext{L:aI}{h:aF}{α:Al}(X:cp L h h' α aD)(N:∃m,h.Ns L m){p:PV}(V:RV h α v p):RV h' aD v p:=(RV.zP X N).1 _ _ V
theorem a7.ext{L:aI}{h:aF}{α:Al}(X:cp L h h' α aD)(N:∃m,h.Ns L m)(V:a7 h α vs ps):a7 h' aD vs ps:=(RV.zP X N).2 _ _ V
noncomputable def RA(w:br)(h:aF)(α:Al):List lR→List (String×PV)→Prop
 | [],[]=>True
 |e::es,p::ps=>(∃t,e.key= .str (S p.1) t)∧e.hash=wz w.params (S p.1)∧RV h α e.val p.2∧RA w h α es ps
 |_,_=>False
theorem RA.map{w:br}{h:aF}{α:Al}(k:∀v p,RV h α v p→RV h' aD v p):∀{es:List lR} {l:List (String×PV)},RA w h α es l→RA w h' aD es l:=by
 intro es
 induction es with
 |nil=>exact λ{l}=>by cases l<;>exact id
 |cons e es ih=>
  intro l;cases l with
  |nil=>exact id
  |cons p l=>exact λr=>⟨r.1,r.2.1,k _ _ r.2.2.1,ih r.2.2.2⟩
theorem RA.ext{w:br}{L:aI}{h:aF}{α:Al}(X:cp L h h' α aD)(N:∃m,h.Ns L m){es:List lR}{l:List (String×PV)}(r:RA w h α es l):RA w h' aD es l:=r.map (RV.zP X N).1
def RO(ae:bw)(w:br)(h:aF)(α:Al)(a b:aI):PO→Prop
 | .list l=>b=a∧∃(vs:Array au) (n:Nat),IsL h a vs n∧a7 h α vs.toList l
 | .aU l=>(b=a∧(a==jt)=false)∧∃kvs:List (Int×au),h.DictOf (jP ae w) a kvs∧kvs.map (·.1)=l.map (·.1)∧a7 h α (kvs.map (·.2)) (l.map (·.2))
 | .cZ l=>(b=a∧(a==jt)=false)∧∃kvs:List (Str×au),h.DictOf (strKind ae w) a kvs∧kvs.map (·.1)=l.map (λp=>S p.1)∧a7 h α (kvs.map (·.2)) (l.map (·.2))
 | .inst C l=>a≠b∧h.get? a=some (instObj C b)∧∃(es:List lR) (n:Nat),h.get? b=some (dictOf es n)∧
  RA w h α es l
 | .c7=>b=a∧∃x y:au,h.get? a=some {cls:= .type "tuple",data:= .seq #[x,y]}
structure RS(ae:bw)(w:br)(ag h:aF)(α:Al)(σ:ah):Prop where
 base:∀b o,ag.get? b=some o→h.get? b=some o
 len:α.length=σ.length
 objs:∀(i:Nat) a b o,α[i]? =some (a,b)→σ[i]? =some o→RO ae w h α a b o
 apart:α.Pairwise λp q=>p.1≠q.1∧p.1≠q.2∧p.2≠q.1∧p.2≠q.2
 new:∀a∈own α,ag.get? a=none
 there:∀a∈own α,(h.get? a).isSome=true
structure RE(ag h:aF)(aa:Env)(α:Al)(ρ:aO):Prop where
 fn:aa.scope.kind= .function
 gl:aa.globals=ic
 bu:aa.builtins=qf
 loc:∃m,h.Ns aa.locals m∧∀x v,aa.kindOf (S x)=some .local→ρ x=some v→∃val,m (S x)=some val∧RV h α val v
 lD:∀x,aa.kindOf (S x)=some .cell∨aa.kindOf (S x)=some .free→∃c,aa.cells.lookup (S x)=some c∧c∉own α∧c≠aa.locals∧ag.get? c=none∧
  ∃vo,h.IsCell c vo∧∀v,ρ x=some v→∃val,vo=some val∧RV h α val v
 apart:∀x y c,aa.cells.lookup x=some c→aa.cells.lookup y=some c→x=y
 dX:aa.locals∉own α
 jg:ag.objs.size≤aa.locals
variable{aa:Env}{ρ:aO}
theorem RE.ns{ag h:aF}{α:Al}(R:RE ag h aa α ρ):∃m,h.Ns aa.locals m:=let⟨m,e,_⟩:=R.loc;⟨m,e⟩
theorem RE.ext{ag h:aF}{α:Al}(R:RE ag h aa α ρ)(X:cp aa.locals h h' α aD):RE ag h' aa aD ρ where
 fn:=R.fn
 gl:=R.gl
 bu:=R.bu
 loc:=by
  refine aT (R.loc) λm h1 h2=> ?_;refine⟨m,X.ns m h1,λx v k e=> ?_⟩;refine aT (h2 x v k e) λval e1 e2=> ?_;exact⟨val,e1,e2.ext X ⟨m,h1⟩⟩
 lD x k:=by
  obtain⟨c,h1,h2,h3,h4,vo,⟨o,h5,H6⟩,h6⟩:=R.lD x k;refine⟨c,h1,X.mZ h5 h2,h3,h4,vo,⟨o,X.keep c o h5 h2 h3,H6⟩,λv e=> ?_⟩;refine aT (h6 v e) λval e1 e2=> ?_;exact⟨val,e1,e2.ext X R.ns⟩
 apart:=R.apart
 dX:=by
  refine xF (R.ns) λm o es ep h1 z=> ?_;exact X.mZ h1 R.dX
 jg:=R.jg
def fc(n:Nat)(A:bO):Prop:=A.handled=none∧A.depth+8*n<1000∧A.units+40*n+200<9900
abbrev CE:=aO→ah→Option (PV×ah)
abbrev CB:=aO→ah→Option (Bool×ah)
inductive Fl where
 |next|brk|cont|ret (v:PV)
abbrev CS:=aO→ah→Option (Fl×aO×ah)
section
variable(ae:bw)(w:br)(ag:aF)
abbrev KE(L:aI)(s:aE)(α:Al)(aq:ah)(pv:PV)(Q:au→aE→Prop):Prop:=
 ∀v h' (tk:TK) aD,cp L s.heap h' α aD→RS ae w ag h' aD aq→RV h' aD v pv→Q v {s with heap:=h',toks:=tk.1,drawn:=tk.2}
def SE(n:Nat)(aa:Env)(t:Sem au)(c:CE):Prop:=
 ∀(A:bO) (s:aE) (α:Al) (ρ:aO) (σ:ah) (pv:PV) (aq:ah) (E:au→aE→Prop) (Q:au→aE→Prop),fc n A→RE ag s.heap aa α ρ→RS ae w ag s.heap α σ→c ρ σ=some (pv,aq)→
  KE ae w ag aa.locals s α aq pv Q→aY (ba ae w) A t Q E s
def SB(n:Nat)(aa:Env)(t:Sem Bool)(c:CB):Prop:=
 ∀(A:bO) (s:aE) (α:Al) (ρ:aO) (σ:ah) (b:Bool) (aq:ah) (E:au→aE→Prop) (Q:Bool→aE→Prop),fc n A→RE ag s.heap aa α ρ→RS ae w ag s.heap α σ→c ρ σ=some (b,aq)→
  (∀h' (tk:TK) aD,cp aa.locals s.heap h' α aD→RS ae w ag h' aD aq→Q b {s with heap:=h',toks:=tk.1,drawn:=tk.2})→aY (ba ae w) A t Q E s
end
variable{P:au→Prop}
section
set_option genSizeOfSpec false
set_option genInjectivity false
section
variable{h:aF}{α:Al}{v:au}{vs:List au}
@[elab_as_elim] theorem RV.eN(V:RV h α v .none)(k:P .none):P v:=V.iN λz=>z▸k
@[elab_as_elim] theorem RV.eI{i:Int}(V:RV h α v (.int i))(k:∀t,P (.int i t)):P v:=V.iI λt z=>z▸k t
@[elab_as_elim] theorem RV.eS{x:String}(V:RV h α v (.str x))(k:∀t,mR (S x)=true→P (.str (S x) t)):P v:=V.iS λt z y=>z▸k t y
@[elab_as_elim] theorem RV.eT(V:RV h α v (.tup ps))(k:∀a (vs:Array au) (n:Nat),IsT h a vs n→a∉own α→a7 h α vs.toList ps→P (.ref a)):P v:=V.iT λa vs n z x y r=>z▸k a vs n x y r
@[elab_as_elim] theorem RV.eL(V:RV h α v (.lst ps))(k:∀a (vs:Array au) (n:Nat),IsL h a vs n→a∉own α→a7 h α vs.toList ps→P (.ref a)):P v:=V.iL λa vs n z x y r=>z▸k a vs n x y r
@[elab_as_elim] theorem RV.eR{x y:Int}(V:RV h α v (.d7 x y))(k:∀a t u w,vc h a x y 1 t u w→a∉own α→P (.ref a)):P v:=V.iR λa t u w z x y=>z▸k a t u w x y
@[elab_as_elim] theorem RV.eO{n:Nat}(V:RV h α v (.loc n))(k:∀a b,α[n]? =some (a,b)→P (.ref a)):P v:=V.iO λa b z x=>z▸k a b x
@[elab_as_elim] theorem a7.eN{P:List au→Prop}(V:a7 h α vs [])(k:P []):P vs:=V.iN λz=>z▸k
@[elab_as_elim] theorem a7.eC{p:PV}{P:List au→Prop}(V:a7 h α vs (p::ps))(k:∀v tV,RV h α v p→a7 h α tV ps→P (v::tV)):P vs:=V.iC λv vs z a b=>z▸k v vs a b
end
theorem qH{G p:Prop}{α:Sort u}{q:α→Prop}(h:p∧∃x,q x)(k:∀x,p→q x→G):G:=h.2.elim λx y=>k x h.1 y
theorem rN{α:Type}{a:α}{l:List α}{G:Prop}(e: []=a::l):G:=by cases e
theorem gF{α:Type}{p:Prop}{_:Decidable p}{o:Option α}{r:α}{G:Prop}(e:(if p then o else none)=some r)(k:p→o=some r→G):G:=by
 by_cases h:p
 ·rw[aP h]at e;exact k h e
 ·rw[aS h]at e;exact aQ e
structure Cx where
 A:bO
 s:aE
 L:aI
 E:au→aE→Prop
structure Me where
 h:aF
 tk:TK
 α:Al
noncomputable abbrev Cx.at(c:Cx)(m:Me):aE:={c.s with heap:=m.h,toks:=m.tk.1,drawn:=m.tk.2}
noncomputable abbrev Me.le(L:aI)(m m':Me):Prop:=cp L m.h m'.h m.α m'.α
abbrev Vm(m:Me)(v:au)(p:PV):Prop:=RV m.h m.α v p
abbrev Vms(m:Me)(v:List au)(p:List PV):Prop:=a7 m.h m.α v p
section
variable(ae:bw)(w:br)(ag:aF)
def bk{β γ:Type}(c:Cx)(m:Me)(t:Sem β)(o:Option (γ×ah))(R:Me→β→γ→Prop):Prop:=
 ∀r aq,o=some (r,aq)→∀Q:β→aE→Prop,(∀m' v,m.le c.L m'→RS ae w ag m'.h m'.α aq→R m' v r→Q v (c.at m'))→aY (ba ae w) c.A t Q c.E (c.at m)
structure Ok(n:Nat)(aa:Env)(c:Cx)(m:Me)(ρ:aO)(σ:ah):Prop where
 room:fc n c.A
 hL:c.L=aa.locals
 re:RE ag m.h aa m.α ρ
 rs:RS ae w ag m.h m.α σ
structure Hy(n:Nat)(c:Cx)(m:Me)(σ:ah):Prop where
 room:fc n c.A
 ns:∃x,m.h.Ns c.L x
 low:c.L∉own m.α
 size:ag.objs.size≤c.L
 st:RS ae w ag m.h m.α σ
end
section
variable{ae:bw}{w:br}{ag:aF}{n:Nat}{aa:Env}{c:Cx}{m m1 m2:Me}{ρ:aO}{σ rO RN:ah}{β H7 γ tW:Type}{R:Me→β→γ→Prop}{R':Me→H7→tW→Prop}{t:Sem β}{o:Option (γ×ah)}
theorem bk.no:bk ae w ag c m t none R:=λz z e=>aQ e
theorem bk.ite{p:Prop} [Decidable p]{a b:Option (γ×ah)}(h:p→bk ae w ag c m t a R)(h2:¬p→bk ae w ag c m t b R):bk ae w ag c m t (if p then a else b) R:=by
 by_cases q:p
 ·rw[aP q];exact h q
 ·rw[aS q];exact h2 q
theorem bk.if1{p:Prop} [Decidable p]{a:Option (γ×ah)}(h:p→bk ae w ag c m t a R):bk ae w ag c m t (if p then a else none) R:=bk.ite h λz=>bk.no
theorem bk.pb{δ:Type}{o:Option δ}{f:δ→Option (γ×ah)}(h:∀x,o=some x→bk ae w ag c m t (f x) R):bk ae w ag c m t (o.bind f) R:=λr rO e=>c4 e λx e1 e2=>h x e1 r rO e2
theorem Ok.to(K:Ok ae w ag n aa c m ρ σ)(l:m.le c.L m1)(T:RS ae w ag m1.h m1.α rO):Ok ae w ag n aa c m1 ρ rO:=⟨K.room,K.hL,K.re.ext (K.hL▸l),T⟩
theorem Ok.up(K:Ok ae w ag n aa c m ρ σ)(l:m.le c.L m1){p:PV}(V:Vm m v p):Vm m1 v p:=V.ext l (K.hL▸K.re.ns)
theorem Ok.hy(K:Ok ae w ag n aa c m ρ σ):Hy ae w ag n c m σ:=⟨K.room,K.hL▸K.re.ns,K.hL▸K.re.dX,K.hL▸K.re.jg,K.rs⟩
theorem SE.of{t:Sem au}{ce:CE}(h:∀c m ρ σ,Ok ae w ag n aa c m ρ σ→bk ae w ag c m t (ce ρ σ) Vm):SE ae w ag n aa t ce:=
 λA s α ρ σ pv aq E Q ho R T e q=>h ⟨A,s,aa.locals,E⟩ ⟨s.heap,(s.toks,s.drawn),α⟩ ρ σ ⟨ho,rfl,R,T⟩ pv aq e Q λm' v l T V=>q v m'.h m'.tk m'.α l T V
theorem SE.sp{t:Sem au}{ce:CE}(h:SE ae w ag n aa t ce)(K:Ok ae w ag n aa c m ρ σ):bk ae w ag c m t (ce ρ σ) Vm:=
 λr aq e Q q=>h c.A (c.at m) m.α ρ σ r aq c.E Q K.room K.re K.rs e λv h' tk aD X T V=>q ⟨h',tk,aD⟩ v (K.hL▸X) T V
end
end
noncomputable abbrev pw:bw:=PySem.Challenge.pw_qd0028_01
def tb(i:Nat):Stmt:=(pw.main.body[i]?).getD default
def mb(i j:Nat):Stmt:=match tb i with
 | .ClassDef _ _ _ body _ _ _ _ _ _ _=>(body[j]?).getD default
 |_=>default
noncomputable def fdOf(s:Stmt)(q:Str)(pm:au)(cd:aI):nX:=match s with
 | .FunctionDef name args body _ _ _ scope _ _ _=>{name,qualname:=q,params:=args,body:= .stmts body,scope,globals:=ic,closure:= [],defaults:= .none,kwdefaults:= .none,pyModule:=pm,code:= .ref cd}
 |_=>default
abbrev mA:au:= .str (S "fdsolve.answers") 194
abbrev mD:au:= .str (S "fdsolve.domains") 467
abbrev mP:au:= .str (S "fdsolve.proofs") 558
abbrev mL:au:= .str (S "law_qd0028_01") 951
def fT(i:Nat)(q:String)(m:au)(a:aI):nX:=fdOf (tb i) (S q) m a
def fM(i j:Nat)(q:String)(m:au)(a:aI):nX:=fdOf (mb i j) (S q) m a
def KH:=fT 8 "values_of" mA 31
def Ke:=fT 10 "linear_holds" mA 45
def Kf:=fT 14 "choice_holds" mA 73
def Ko:=fT 15 "count_holds" mA 78
def Ml:=fT 21 "holds" mA 114
def Kq:=fT 22 "listed_vars" mA 121
def Lk:=fT 23 "vars_of" mA 128
def M6:=fT 30 "size" mD 202
def KJ:=fT 31 "next_from" mD 209
def NX:=fT 32 "has" mD 216
def LI:=fT 33 "values" mD 223
def Mm:=fT 34 "up_to" mD 228
def Ll:=fT 35 "from_on" mD 233
def Lm:=fT 36 "without" mD 240
def M7:=fT 37 "meet" mD 247
def KW:=fT 38 "negation" mD 254
def LJ:=fT 39 "struck" mD 261
def KX:=fT 42 "is_whole" mP 273
def Kv:=fT 43 "divisor_of" mP 280
def J5:=fM 44 0 "ProofLog.__init__" mP 294
def KY:=fM 45 0 "Box.__init__" mP 364
def Kx:=fM 45 1 "Box.domain" mP 371
def Kg:=fM 45 2 "Box.can_hold" mP 378
def J6:=fM 45 3 "Box.does_hold" mP 385
def Ln:=fM 45 4 "Box.say" mP 392
def KZ:=fM 45 5 "Box.deny" mP 399
def JZ:=fM 46 0 "StepJudge.__init__" mP 420
def JI:=fM 46 1 "StepJudge.follows" mP 425
def Jq:=fM 46 2 "StepJudge.is_refuted" mP 430
def Jx:=fM 46 3 "StepJudge.is_beyond" mP 437
def JJ:=fM 46 4 "StepJudge.has_row" mP 442
def Jr:=fM 46 5 "StepJudge.can_differ" mP 449
def JK:=fM 46 6 "StepJudge.move_on" mP 454
def Jy:=fM 46 7 "StepJudge.has_tuple" mP 459
def JU:=fM 47 0 "LogChecker.__init__" mP 480
def JV:=fM 47 1 "LogChecker.look" mP 487
def Jz:=fM 47 3 "LogChecker.fault_of" mP 499
def Js:=fM 47 4 "LogChecker.is_clause" mP 506
def Jj:=fM 47 5 "LogChecker.strike_fault" mP 513
def JD:=fM 47 6 "LogChecker.clashes" mP 518
def Jt:=fM 47 7 "LogChecker.is_answer" mP 523
def Jk:=fM 47 8 "LogChecker.better_fault" mP 530
def Jo:=fM 47 9 "LogChecker.seen_fault" mP 535
def K0:=fT 49 "_law_take" mL 549
def Ky:=fT 50 "_law_clause" mL 556
def K6:=fT 51 "_law_told" mL 563
def KL:=fT 52 "_law_keeps" mL 570
def K7:=fT 53 "_law_lets" mL 577
def Kh:=fT 54 "_law_is_whole" mL 584
def J7:=fT 55 "_law_is_clause" mL 589
def Kr:=fT 56 "_law_follows" mL 594
def K8:=fT 57 "_law_word" mL 599
def K9:=fT 58 "_law_step" mL 604
def La:=fT 59 "_law_bent" mL 611
def ve:=fT 60 "law" mL 616
noncomputable abbrev kh(P:Params)(x:Str):Int:=wz P x
def en(P:Params)(x:String)(t:Nat)(v:au):lR:={hash:=kh P (S x),key:= .str (S x) t,val:=v}
def cP(t:Nat):au:= .str (S "/claim/cut.py") t
def cO(a:aI)(x y:String)(t:Nat)(l n:Int)(r:Nat)(e:Nat)(o1 o2 o3:au)(f:nX)(K:Frag):Frag:=(a,{cls:= .type "code",data:= .fields #[.str (S x) t,.str (S y) (t+1),cP (t+2),.int l 0,.int n 0,.int 0 0,.int 0 0,.int 3 0,.ref r,.bool true,.int 181 0,.ref (r+1),.none,o1,o2,o3,.int e 0,.int l 0,cP (e+1)]})::(a+1,{cls:= .type "function",data:= .func f})::K
def c0(a:aI)(x y:String)(t:Nat)(l n:Int)(r e:Nat)(f:nX)(K:Frag):Frag:=cO a x y t l n r e .none .none (.ref (r+2)) f K
def c1(a:aI)(x y:String)(t:Nat)(l n:Int)(r e:Nat)(f:nX)(K:Frag):Frag:=cO a x y t l n r e (.ref (r+2)) (.ref (r+3)) (.ref (r+4)) f K
def KK(P:Params):Frag:= [
 (2,{cls:=lh,data:=wR #[en P "type.__subclasses__.Exception.0" 412 (lS 155 0),en P "type.__subclasses__.Exception.n" 413 (lS 1 0)] 2}),
 (3,{cls:=fV "dict",data:=wR #[en P "__name__" 165 mL,en P "__doc__" 166 lh,en P "__package__" 167 lh,en P "__loader__" 168 (uC "__main__.__loader__#opaque"),en P "__spec__" 169 lh,en P "__annotations__" 170 (bD 6),en P "__builtins__" 171 (bD 4),en P "__file__" 173 (eQ (S "/claim/cut.py") 172),en P "__cached__" 174 lh,en P "_wall" 193 (bD 21),en P "LINEAR" 199 (bD 22),en P "ARITH" 206 (bD 23),en P "CHOICES" 212 (bD 24),en P "COUNTS" 217 (bD 25),en P "TIMES" 220 (bD 26),en P "ORDERS" 225 (bD 27),en P "values_of" 231 (bD 32),en P "quotient_of" 240 (bD 39),en P "linear_holds" 255 (bD 46),en P "arith_holds" 268 (bD 53),en P "is_round" 278 (bD 60),en P "are_inverse" 289 (bD 67),en P "choice_holds" 300 (bD 74),en P "count_holds" 306 (bD 79),en P "need_at" 312 (bD 84),en P "time_holds" 318 (bD 89),en P "is_accepted" 334 (bD 96),en P "order_holds" 340 (bD 101),en P "logic_holds" 349 (bD 108),en P "holds" 358 (bD 115),en P "listed_vars" 366 (bD 122),en P "vars_of" 375 (bD 129),en P "FdError" 415 (bD 155),en P "LimitFault" 431 (bD 168),en P "ProofFault" 466 (bD 196),en P "MOST_LISTED" 470 (lS 1000000 469),en P "size" 476 (bD 203),en P "next_from" 486 (bD 210),en P "has" 494 (bD 217),en P "values" 504 (bD 224),en P "up_to" 510 (bD 229),en P "from_on" 516 (bD 234),en P "without" 524 (bD 241),en P "meet" 537 (bD 248),en P "negation" 547 (bD 255),en P "struck" 557 (bD 262),en P "clause_of" 565 (bD 267),en P "is_whole" 572 (bD 274),en P "divisor_of" 580 (bD 281),en P "ProofLog" 677 (bD 347),en P "Box" 748 (bD 403),en P "StepJudge" 842 (bD 463),en P "LogChecker" 950 (bD 539),en P "_law_take" 961 (bD 550),en P "_law_clause" 972 (bD 557),en P "_law_told" 981 (bD 564),en P "_law_keeps" 990 (bD 571),en P "_law_lets" 1000 (bD 578),en P "_law_is_whole" 1007 (bD 585),en P "_law_is_clause" 1013 (bD 590),en P "_law_follows" 1019 (bD 595),en P "_law_word" 1025 (bD 600),en P "_law_step" 1031 (bD 605),en P "_law_bent" 1046 (bD 612),en P "law" 1052 (bD 617)] 65}),
 (22,{cls:=fV "tuple",data:=uX #[eQ (S "linear_le") 196,eQ (S "linear_eq") 197,eQ (S "linear_ne") 198]}),
 (23,{cls:=fV "tuple",data:=uX #[eQ (S "times") 200,eQ (S "div") 201,eQ (S "mod") 202,eQ (S "abs") 203,eQ (S "max") 204,eQ (S "min") 205]}),
 (24,{cls:=fV "tuple",data:=uX #[eQ (S "element") 207,eQ (S "element_of") 208,eQ (S "table") 209,eQ (S "inverse") 210,eQ (S "circuit") 211]}),
 (25,{cls:=fV "tuple",data:=uX #[eQ (S "all_different") 213,eQ (S "count") 214,eQ (S "nvalue") 215,eQ (S "cardinality") 216]}),
 (26,{cls:=fV "tuple",data:=uX #[eQ (S "cumulative") 218,eQ (S "disjunctive") 219]}),
 (27,{cls:=fV "tuple",data:=uX #[eQ (S "lex_le") 221,eQ (S "lex_lt") 222,eQ (S "increasing") 223,eQ (S "precede") 224]}),
 (346,{cls:=fV "dict",data:=wR #[en P "__module__" 588 mP,en P "__firstlineno__" 592 (lS 235 591),en P "__init__" 599 (bD 295),en P "add" 610 (bD 302),en P "stated" 619 (bD 309),en P "strike" 629 (bD 316),en P "clash" 638 (bD 323),en P "nogood" 647 (bD 330),en P "better" 658 (bD 337),en P "seen" 667 (bD 344),en P "__static_attributes__" 670 (bD 345),en P "__dict__" 672 (bD 348),en P "__weakref__" 674 (bD 349),en P "__doc__" 675 lh] 4}),
 (347,{cls:=fV "type",data:=Data.cls {name:=S "ProofLog",bases:= [fV "object"],mro:= [bD 347,fV "object"],ns:=346,qualname:=S "ProofLog"},slots:= #[none,none,some (eQ (S "ProofLog") 581),some (eQ (S "ProofLog") 589),some (uC "object.__new__"),some (DF true)]}),
 (402,{cls:=fV "dict",data:=wR #[en P "__module__" 685 mP,en P "__firstlineno__" 689 (lS 269 688),en P "__init__" 697 (bD 365),en P "domain" 705 (bD 372),en P "can_hold" 713 (bD 379),en P "does_hold" 721 (bD 386),en P "say" 729 (bD 393),en P "deny" 738 (bD 400),en P "__static_attributes__" 741 (bD 401),en P "__dict__" 743 (bD 404),en P "__weakref__" 745 (bD 405),en P "__doc__" 746 lh] 4}),
 (403,{cls:=fV "type",data:=Data.cls {name:=S "Box",bases:= [fV "object"],mro:= [bD 403,fV "object"],ns:=402,qualname:=S "Box"},slots:= #[none,none,some (eQ (S "Box") 678),some (eQ (S "Box") 686),some (uC "object.__new__"),some (DF true)]}),
 (462,{cls:=fV "dict",data:=wR #[en P "__module__" 756 mP,en P "__firstlineno__" 760 (lS 293 759),en P "__init__" 769 (bD 421),en P "follows" 775 (bD 426),en P "is_refuted" 781 (bD 431),en P "is_beyond" 799 (bD 438),en P "has_row" 805 (bD 443),en P "can_differ" 820 (bD 450),en P "move_on" 826 (bD 455),en P "has_tuple" 832 (bD 460),en P "__static_attributes__" 835 (bD 461),en P "__dict__" 837 (bD 464),en P "__weakref__" 839 (bD 465),en P "__doc__" 840 lh] 4}),
 (463,{cls:=fV "type",data:=Data.cls {name:=S "StepJudge",bases:= [fV "object"],mro:= [bD 463,fV "object"],ns:=462,qualname:=S "StepJudge"},slots:= #[none,none,some (eQ (S "StepJudge") 749),some (eQ (S "StepJudge") 757),some (uC "object.__new__"),some (DF true)]}),
 (538,{cls:=fV "dict",data:=wR #[en P "__module__" 850 mP,en P "__firstlineno__" 854 (lS 387 853),en P "__init__" 865 (bD 481),en P "look" 875 (bD 488),en P "check" 883 (bD 495),en P "fault_of" 889 (bD 500),en P "is_clause" 898 (bD 507),en P "strike_fault" 907 (bD 514),en P "clashes" 913 (bD 519),en P "is_answer" 919 (bD 524),en P "better_fault" 930 (bD 531),en P "seen_fault" 936 (bD 536),en P "__static_attributes__" 943 (bD 537),en P "__dict__" 945 (bD 540),en P "__weakref__" 947 (bD 541),en P "__doc__" 948 lh] 4}),
 (539,{cls:=fV "type",data:=Data.cls {name:=S "LogChecker",bases:= [fV "object"],mro:= [bD 539,fV "object"],ns:=538,qualname:=S "LogChecker"},slots:= #[none,none,some (eQ (S "LogChecker") 843),some (eQ (S "LogChecker") 851),some (uC "object.__new__"),some (DF true)]})]++(
 c0 31 "values_of" "values_of" 226 11 2 28 229 KH<|
 c1 45 "linear_holds" "linear_holds" 241 16 2 40 253 Ke<|
 c1 73 "choice_holds" "choice_holds" 290 52 2 68 298 Kf<|
 c0 78 "count_holds" "count_holds" 301 63 2 75 304 Ko<|
 c1 114 "holds" "holds" 350 108 2 109 356 Ml<|
 c1 121 "listed_vars" "listed_vars" 359 129 1 116 364 Kq<|
 c1 128 "vars_of" "vars_of" 367 148 1 123 373 Lk<|
 c0 202 "size" "size" 471 175 1 199 474 M6<|
 c1 209 "next_from" "next_from" 477 177 2 204 484 KJ<|
 c1 216 "has" "has" 487 182 2 211 492 NX<|
 c1 223 "values" "values" 495 184 1 218 502 LI<|
 c0 228 "up_to" "up_to" 505 191 2 225 508 Mm<|
 c0 233 "from_on" "from_on" 511 193 2 230 514 Ll<|
 c1 240 "without" "without" 517 195 2 235 522 Lm<|
 c1 247 "meet" "meet" 525 197 2 242 535 M7<|
 c1 254 "negation" "negation" 538 208 1 249 545 KW<|
 c1 261 "struck" "struck" 548 215 2 256 555 LJ<|
 c1 273 "is_whole" "is_whole" 566 228 1 268 570 KX<|
 c1 280 "divisor_of" "divisor_of" 573 230 2 275 578 Kv<|
 c1 294 "__init__" "ProofLog.__init__" 593 237 1 289 597 J5<|
 c1 364 "__init__" "Box.__init__" 690 271 2 359 695 KY<|
 c1 371 "domain" "Box.domain" 698 275 2 366 703 Kx<|
 c1 378 "can_hold" "Box.can_hold" 706 278 2 373 711 Kg<|
 c1 385 "does_hold" "Box.does_hold" 714 281 2 380 719 J6<|
 c1 392 "say" "Box.say" 722 284 2 387 727 Ln<|
 c1 399 "deny" "Box.deny" 730 288 2 394 736 KZ<|
 c1 420 "__init__" "StepJudge.__init__" 761 295 3 415 767 JZ<|
 c0 425 "follows" "StepJudge.follows" 770 299 3 422 773 JI<|
 c0 430 "is_refuted" "StepJudge.is_refuted" 776 315 3 427 779 Jq<|
 c1 437 "is_beyond" "StepJudge.is_beyond" 782 324 3 432 797 Jx<|
 c0 442 "has_row" "StepJudge.has_row" 800 340 3 439 803 JJ<|
 c1 449 "can_differ" "StepJudge.can_differ" 806 347 2 444 818 Jr<|
 c0 454 "move_on" "StepJudge.move_on" 821 365 5 451 824 JK<|
 c0 459 "has_tuple" "StepJudge.has_tuple" 827 374 4 456 830 Jy<|
 c1 480 "__init__" "LogChecker.__init__" 855 389 5 475 863 JU<|
 c1 487 "look" "LogChecker.look" 866 395 2 482 873 JV<|
 c0 499 "fault_of" "LogChecker.fault_of" 884 408 3 496 887 Jz<|
 c1 506 "is_clause" "LogChecker.is_clause" 890 428 2 501 896 Js<|
 c1 513 "strike_fault" "LogChecker.strike_fault" 899 438 3 508 905 Jj<|
 c0 518 "clashes" "LogChecker.clashes" 908 446 3 515 911 JD<|
 c0 523 "is_answer" "LogChecker.is_answer" 914 460 2 520 917 Jt<|
 c1 530 "better_fault" "LogChecker.better_fault" 920 468 3 525 928 Jk<|
 c0 535 "seen_fault" "LogChecker.seen_fault" 931 474 3 532 934 Jo<|
 c1 549 "_law_take" "_law_take" 953 486 2 544 959 K0<|
 c1 556 "_law_clause" "_law_clause" 962 492 2 551 970 Ky<|
 c1 563 "_law_told" "_law_told" 973 498 1 558 979 K6<|
 c1 570 "_law_keeps" "_law_keeps" 982 505 2 565 988 KL<|
 c1 577 "_law_lets" "_law_lets" 991 512 2 572 998 K7<|
 c1 584 "_law_is_whole" "_law_is_whole" 1001 517 1 579 1005 Kh<|
 c0 589 "_law_is_clause" "_law_is_clause" 1008 519 2 586 1011 J7<|
 c0 594 "_law_follows" "_law_follows" 1014 528 3 591 1017 Kr<|
 c0 599 "_law_word" "_law_word" 1020 542 3 596 1023 K8<|
 c0 604 "_law_step" "_law_step" 1026 573 3 601 1029 K9<|
 c1 611 "_law_bent" "_law_bent" 1032 593 4 606 1044 La<|
 c0 616 "law" "law" 1047 610 1 613 1050 ve [])
def qv:bw:=view pw [60]
def sY:List Str:= ["_wall","LINEAR","ARITH","CHOICES","COUNTS","TIMES","ORDERS","values_of","quotient_of","linear_holds","arith_holds","is_round","are_inverse","choice_holds","count_holds","need_at","time_holds","is_accepted","order_holds","logic_holds","holds","listed_vars","vars_of","FdError","LimitFault","ProofFault","MOST_LISTED","size","next_from","has","values","up_to","from_on","without","meet","negation","struck","clause_of","is_whole","divisor_of","ProofLog","Box","StepJudge","LogChecker","_law_take","_law_clause","_law_told","_law_keeps","_law_lets","_law_is_whole","_law_is_clause","_law_follows","_law_word","_law_step","_law_bent"].map S
noncomputable def addrs:List aI:= [2,3,22,23,24,25,26,27,346,347,402,403,462,463,538,539,31,32,45,46,73,74,78,79,114,115,121,122,128,129,202,203,209,210,216,217,223,224,228,229,233,234,240,241,247,248,254,255,261,262,273,274,280,281,294,295,364,365,371,372,378,379,385,386,392,393,399,400,420,421,425,426,430,431,437,438,442,443,449,450,454,455,459,460,480,481,487,488,499,500,506,507,513,514,518,519,523,524,530,531,535,536,549,550,556,557,563,564,570,571,577,578,584,585,589,590,594,595,599,600,604,605,611,612,616,617]
noncomputable def NY{α β:Type}(l:List α):(List α→β)→β:= @List.rec α (λz=>(List α→β)→β) (λk=>k []) (λa z ih k=>ih λr=>k (a::r)) l
theorem LK{α β:Type}:∀(l:List α) (k:List α→β),NY l k=k l
 | [],_=>rfl
 |a::l,k=>LK l λr=>k (a::r)
def Yf(s:aE):List (Option Obj)×Bool:=(addrs.map s.heap.get?,(s.heap.get? jt).isSome)
def Ya(w:br):List (Option Obj)×Bool:=((KK w.params).map λp=>some p.2,true)
def YP(w:br)(h:aF):Prop:=(KK w.params).In h∧∃o,h.get? jt=some o
theorem XN:∀P,addrs=(KK P).map (·.1):=λz=>by kernel_rfl
theorem ac9(w:br)(s:aE)(e:Yf s=Ya w):YP w s.heap:=
 ⟨InK.of XN w s (bV z0 e),T8.mp (bV wY e)⟩
theorem XO(w:br)(h h':aF)(y:YP w h)(k:∀b o,h.get? b=some o→h'.get? b=some o):YP w h':=
 ⟨λa o e=>k _ _ (y.1 a o e),let⟨o,e⟩:=y.2;⟨o,k _ _ e⟩⟩
def OM(w:br)(s:aE):Bool:=staticsOk (wt pw.main.body) (zK w.params) s.heap&&namesBound pw s.heap&&gensDone s&&laidKept (zK w.params) s.heap
noncomputable def abv:List Obj→Nat→BT→BT:=λl=> @List.rec Obj (λz=>Nat→BT→BT) (λz t=>t) (λo z ih n t=>ih (n+1) (t.ins n o)) l
def sT(w:br)(os:OsState):SharedT:=⟨abv (zK w.params).objs.toList 0 .nil,11,{},Array.mk [],boot_drawn,boot_toks,os⟩
theorem abw(w:br)(os:OsState):(sT w os).abs=⟨zK w.params,Array.mk [],boot_drawn,boot_toks,os⟩:=by kernel_rfl
noncomputable def G9(s:SharedT)(l:List Obj):aE:=⟨⟨⟨l⟩,s.life⟩,s.gens,s.drawn,s.toks,s.os⟩
theorem aev:∀(w:br) (os:OsState),(PySem.W.Fast.tw10110043849684766642 PySem.W.Fast.tw14364793385576792824 pw w 11 (some (.ref 6)) 0 4200 (sT w os) (topStub pw)).map (λr=>NY (r.2.1.tree.list r.2.1.n) λl=>(OM w (G9 r.2.1 l),PySem.W.Fast.tw4187177175401517315 qv sY (wt pw.main.body) (λz=>true) true (G9 r.2.1 l),Yf (G9 r.2.1 l)))=some (true,openGood qv sY,Ya w):=by
 intro w os;kernel_rfl
theorem Vw{p q:bw}{loose:List Str}{Xt:aE→Bool}{α:Type}{Yf:aE→α}{Ya:br→α}{N:Nat}{oA:Params→aF}{AD:Array GenState}{Ha:Drawn}{Hb:Nat}{P7:Nat}{ann:Option au}{M:Nat}
 (ada:∀w:br,(fencedOpening zL p w N).map (λs=>(s.heap,s.gens,s.drawn,s.toks))=some (oA w.params,AD,Ha,Hb))
 (size:∀w:br,((oA w.params).isNs ic&&AD.size==0,(oA w.params).objs.size,(oA w.params).nsMap ic "__annotations__")=(true,P7,ann))
 (run:∀(w:br) (os:OsState),(topRun zL p w P7 ann M ⟨oA w.params,AD,Ha,Hb,os⟩ (topStub p)).map (λs=>(staticsOk (wt p.main.body) (oA w.params) s.heap&&namesBound p s.heap&&gensDone s&&laidKept (oA w.params) s.heap,openSeen q loose (wt p.main.body) Xt true s,Yf s))=some (true,openGood q loose,Ya w))
 (le:Nat.ble M N=true):LeftO p q loose Xt Yf Ya N:=λw=>by
 obtain⟨⟨h,gs,d,k,os⟩,e,e'⟩:=JA.mp (ada w);obtain⟨rfl,rfl,rfl,rfl⟩:h=oA w.params∧gs=AD∧d=Ha∧k=Hb:=by simpa using e'
 obtain⟨z1,z2,z3⟩:_∧_∧_:=by simpa only[ri]using size w
 obtain⟨cV,r,l⟩:=JA.mp (run w os);obtain⟨l1,l2⟩:=Dp l;have r:=topRun_mono (N-M) _ _ _ _ r;rw[show M+(N-M)=N by have:=aK le;omega]at r;have t:topFrom zL p w N ⟨oA w.params,gs,d,k,os⟩=some cV:=by
  unfold topFrom;dsimp only;rw[z1,z2,z3,r];show(match staticsOk (wt p.main.body) (oA w.params) cV.heap&&namesBound p cV.heap&&gensDone cV&&laidKept (oA w.params) cV.heap with|true=>_|false=>_)=_;rw[l1]
 unfold openEnds;rw[e];show(topFrom zL p w N _).map _=_;rw[t];exact bV some l2
theorem VX{t:Thread}{f:Flow}(h:endAt 0 t=some f):through t=true:=by
 obtain⟨cur,code,pos,st⟩:=t;cases st with
 |cons=>exact aQ h
 |nil=>cases cur with
  |pure r=>cases r with
   |done=>rfl
   |_=>exact aQ h
  |_=>exact aQ h
theorem Vy{t:Thread}(h:endAt 0 t=none):through t=false:=by
 obtain⟨cur,code,pos,st⟩:=t;cases st with
 |cons=>rfl
 |nil=>cases cur with
  |pure r=>cases r with
   |done=>exact dA h
   |_=>rfl
  |_=>rfl
theorem Lo{tb:String→Option Builtin}{p:bw}{w:br}{Hc:Nat}{ann:Option au}:∀{n:Nat} {s s':aE} {t:Thread} {f:Flow} {c:Code} {q:Pos},segRun tb p w Hc ann 0 n s t=some (f,s',c,q)→topRun tb p w Hc ann n s t=some s'
 |0,_,_,_,_,_,_,h=>by cases h
 |n+1,s,s',t,f,c,q,h=>by
  unfold segRun at h;unfold topRun;cases he:endAt 0 t with
  |some x=>
   rw[he]at h;cases h;rw[VX he]
  |none=>
   rw[he]at h;rw[Vy he];cases hk:stepOk Hc ann t with
   |false=>rw[hk]at h;cases h
   |true=>
    rw[hk]at h;cases hs:step (denote tb) p w s t with
    |halt o fF=>rw[hs]at h;cases h
    |go fF afG=>rw[hs]at h;exact Lo h
theorem aew(w:br)(os:OsState):(topRun zL pw w 11 (some (.ref 6)) 4200 ⟨zK w.params,Array.mk [],boot_drawn,boot_toks,os⟩ (topStub pw)).map (λs=>(OM w s,openSeen qv sY (wt pw.main.body) (λz=>true) true s,Yf s))=some (true,openGood qv sY,Ya w):=by
 obtain⟨⟨f,s,c,q⟩,h1,h2⟩:=JA.mp (aev w os);rw[LK]at h2;rw[←PySem.W.Fast.te10110043849684766642,←PySem.W.Fast.te14364793385576792824]at h1;rw[←PySem.W.Fast.te4187177175401517315]at h2;have h3:=Lo (segRun_of h1);rw[abw]at h3;rw[h3];exact bV some h2
theorem left:LeftO pw qv sY (λz=>true) Yf Ya 4200:=
 Vw (boot_open (by kernel_rfl) (by decide) (λz=>by kernel_rfl)) (λz=>by kernel_rfl) aew (by decide)
noncomputable abbrev xY:OpenLaw:=TM
theorem aex:xY.wellSaid=true:=by
 rw[PySem.W.Fast.te9446332074065402090];kernel_rfl
theorem tabs:pw.tablesWhole=true:=by decide+kernel
theorem DictOf.at{ae:bw}{w:br}{K:Type} [DecidableEq K]{knd:KeyKind ae w K}{h:aF}{a:aI}{kvs:List (K×au)}(x:h.DictOf knd a kvs)(k:∀o,h.get? a=some o→h'.get? a=some o):h'.DictOf knd a kvs:=by
 (refine ku x λo es ep e r=> ?_;clear x);exact⟨o,es,ep,k o e,r⟩
theorem RO.map{ae:bw}{w:br}{h:aF}{α:Al}(k:(∀v p,RV h α v p→RV h' aD v p)∧∀vs ps,a7 h α vs ps→a7 h' aD vs ps){a b:aI}(ka:∀o,h.get? a=some o→h'.get? a=some o)(kb:∀o,h.get? b=some o→h'.get? b=some o){o:PO}(r:RO ae w h α a b o):RO ae w h' aD a b o:=by
 cases o with
 |list l=>exact⟨r.1,gD r.2 λvs n h1 h2=>⟨vs,n,ka _ h1,k.2 _ _ h2⟩⟩
 |aU l=>exact⟨r.1,cY r.2 λkvs h1 h2 h3=>⟨kvs,DictOf.at h1 ka,h2,k.2 _ _ h3⟩⟩
 |cZ l=>exact⟨r.1,cY r.2 λkvs h1 h2 h3=>⟨kvs,DictOf.at h1 ka,h2,k.2 _ _ h3⟩⟩
 |inst C l=>exact⟨r.1,ka _ r.2.1,gD r.2.2 λes n h2 h3=>⟨es,n,kb _ h2,h3.map k.1⟩⟩
 |c7=>exact⟨r.1,gM r.2 λx y h1=>⟨x,y,ka _ h1⟩⟩
theorem RO.at{ae:bw}{w:br}{L:aI}{h:aF}{α:Al}(X:cp L h h' α aD)(N:∃m,h.Ns L m){a b:aI}(ka:∀o,h.get? a=some o→h'.get? a=some o)(kb:∀o,h.get? b=some o→h'.get? b=some o){o:PO}(r:RO ae w h α a b o):RO ae w h' aD a b o:=r.map (RV.zP X N) ka kb
theorem mW{α:Al}{a b:aI}(e:α[i]? =some (a,b)):a∈own α∧b∈own α:=by
 have m:=lM e;exact⟨nY.mpr ⟨_,m,.inl rfl⟩,nY.mpr ⟨_,m,.inr rfl⟩⟩
section
variable{ae:bw}{w:br}{ag h h':aF}{α:Al}{σ:ah}{P:aI→Prop}
theorem RV.vM(k:∀a o,h.get? a=some o→¬P a→h'.get? a=some o)(hP:∀a o,P a→h.get? a=some o→a∈own α∨Obj.gh o):(∀v p,RV h α v p→RV h' α v p)∧(∀vs ps,a7 h α vs ps→a7 h' α vs ps):=
 RV.map (λa o e nv n=>⟨k a o e λq=>(hP _ _ q e).elim n nv,n⟩) λz z z e=>e
theorem RV.nH(k:∀a o,h.get? a=some o→¬P a→h'.get? a=some o)(hP:∀a o,P a→h.get? a=some o→Obj.gh o):(∀v p,RV h α v p→RV h' α v p)∧(∀vs ps,a7 h α vs ps→a7 h' α vs ps):=RV.vM k λa o p e=> .inr (hP a o p e)
theorem RS.vM(T:RS ae w ag h α σ)(k:∀a o,h.get? a=some o→¬P a→h'.get? a=some o)(hP:∀a o,P a→h.get? a=some o→a∈own α∨Obj.gh o)(h0:∀a,P a→ag.get? a=none)
 (hth:∀a∈own α,P a→(h'.get? a).isSome=true) (hob:∀(i:Nat) (a b:aI) (o:PO),α[i]? =some (a,b)→σ[i]? =some o→(P a∨P b)→RO ae w h' α a b o):RS ae w ag h' α σ:=by
 refine⟨λb o e=>k b o (T.base b o e) λz=>aQ ((h0 b z).symm.trans e),T.len,λi a b o e1 e2=> ?_,T.apart,T.new,λa m=> ?_⟩
 ·by_cases hp:P a∨P b
  ·exact hob i a b o e1 e2 hp
  ·exact(T.objs i a b o e1 e2).map (RV.vM k hP) (λo e=>k a o e λz=>hp (.inl z)) λo e=>k b o e λz=>hp (.inr z)
 ·by_cases hp:P a
  ·exact hth a m hp
  ·exact nG (T.there a m) λo e=>(bV wA (k a o e hp)).trans rfl
theorem RS.nH(T:RS ae w ag h α σ)(k:∀a o,h.get? a=some o→¬P a→h'.get? a=some o)(hP:∀a o,P a→h.get? a=some o→Obj.gh o)(ho:∀a,P a→a∉own α∧ag.get? a=none):RS ae w ag h' α σ:=
 T.vM k (λa o p e=> .inr (hP a o p e)) (λa p=>(ho a p).2) (λa m p=>bP m (ho a p).1) λi a b o e1 z p=>cM (mW e1) λma mb=>p.elim (λp=>bP ma (ho _ p).1) λp=>bP mb (ho _ p).1
theorem Lb{L:aI}{m:Str→Option au}(e:h.Ns L m)(g:h.get? L=some o):Obj.gh o:=sG ⟨m,e⟩ g
theorem Kz{c:aI}{vo:Option au}(e:h.IsCell c vo)(g:h.get? c=some o):Obj.gh o:=
 aT e λo' e1 e2=>cj (g.symm.trans e1) λz=>z▸(by unfold Obj.gh;rw[e2];trivial)
end
variable{j:Nat}{o':PO}
section
variable{ae:bw}{w:br}{ag h h':aF}{α:Al}{σ:ah}{L:aI}
theorem RS.kp(R:RS ae w ag h α σ)(K:Kp L h h')(hL:L∉own α)(N:∃m,h.Ns L m)(h0:ag.get? L=none):RS ae w ag h' α σ:=
 R.nH (P:=λa=>a=L) K.keep (λy y z e=>sG N (z▸e)) λy z=>z▸⟨hL,h0⟩
theorem apart_at{α:Al}(P:α.Pairwise λp q=>p.1≠q.1∧p.1≠q.2∧p.2≠q.1∧p.2≠q.2){a b c d:aI}(e1:α[i]? =some (a,b))(e2:α[j]? =some (c,d))(n:i≠j):a≠c∧a≠d∧b≠c∧b≠d:=by
 refine bG (fe.mp e1) λl1 g1=> ?_;refine bG (fe.mp e2) λl2 g2=> ?_;rcases Nat.lt_or_gt_of_ne n with q|q
 ·have:=Cc.mp P i j l1 l2 q;rw[g1,g2]at this;exact this
 ·have:=Cc.mp P j i l2 l1 q;rw[g1,g2]at this;exact⟨this.1.symm,this.2.2.1.symm,this.2.1.symm,this.2.2.2.symm⟩
theorem z6{a b:aI}(hi:α[i]? =some (a,b))(hk:∀x o,h.get? x=some o→x≠a→x≠b→x≠L→h'.get? x=some o)(rP:∀m,h.Ns L m→h'.Ns L m):cp L h h' α α:=
 ⟨λx o e n l=>hk x o e (λq=>n (q▸(mW hi).1)) (λq=>n (q▸(mW hi).2)) l,rP,⟨[],by simp⟩,λz e=> .inl e⟩
theorem RS.upd(R:RS ae w ag h α σ){a b:aI}(hi:α[i]? =some (a,b))(hk:∀x o,h.get? x=some o→x≠a→x≠b→x≠L→h'.get? x=some o)(rP:∀m,h.Ns L m→h'.Ns L m)
 (hL:L∉own α) (N:∃m,h.Ns L m) (h0:ag.get? L=none)
 (ha:(h'.get? a).isSome=true) (hb:(h'.get? b).isSome=true) (new:RO ae w h' α a b o'):RS ae w ag h' α (σ.set i o')where
 base x o e:=hk x o (R.base x o e) (λq=>by rw[q,R.new a (mW hi).1]at e;exact aQ e) (λq=>by rw[q,R.new b (mW hi).2]at e;exact aQ e) λq=>by rw[q,h0]at e;exact aQ e
 len:=by rw[kZ];exact R.len
 objs j c d o e1 e2:=by
  by_cases q:i=j
  ·subst q;rw[hi]at e1;(refine cw e1 λaL aM=> ?_;clear e1;subst aL aM);rw[j9 (R.len▸(fe.mp hi).1)]at e2;(refine cj e2 λaL=> ?_;clear e2;subst aL);exact new
  ·rw[oN q]at e2;refine xC (apart_at R.apart hi e1 q) λn1 n2 n3 n4=> ?_;refine cM (mW e1) λmc md=> ?_;exact RO.at (z6 hi hk rP) N (λo e=>hk c o e n1.symm n3.symm λz=>hL (z▸mc)) (λo e=>hk d o e n2.symm n4.symm λz=>hL (z▸md)) (R.objs j c d o e1 e2)
 apart:=R.apart
 new:=R.new
 there x m:=by
  by_cases q1:x=a
  ·rw[q1];exact ha
  ·by_cases q2:x=b
   ·rw[q2];exact hb
   ·refine nG (R.there x m) λo e=> ?_;rw[hk x o e q1 q2 λq=>hL (q▸m)];rfl
theorem rB{a b:aI}(K:Kp L h h')(na:h.get? a=none)(nb:h.get? b=none)(la:a≠L)(lb:b≠L):cp L h h' α (α++ [(a,b)]):=
 ⟨λx o e z l=>K.keep x o e l,K.ns,⟨_,rfl⟩,λx q=>by
  rcases mV.mp q with q|q
  ·exact .inl q
  ·right;refine aT (nY.mp q) λp hp q=> ?_;rw[fz]at hp;subst hp;rcases q with q|q<;>subst q
   ·exact⟨na,la⟩
   ·exact⟨nb,lb⟩⟩
theorem RS.add(R:RS ae w ag h α σ){a b:aI}(K:Kp L h h')(na:h.get? a=none)(nb:h.get? b=none)(la:a≠L)(lb:b≠L)
 (hL:L∉own α) (N:∃m,h.Ns L m) (h0:ag.get? L=none) (ha:(h'.get? a).isSome=true) (hb:(h'.get? b).isSome=true) (new:RO ae w h' (α++ [(a,b)]) a b o'):RS ae w ag h' (α++ [(a,b)]) (σ++ [o']):=by
 have z:∀x,x∈own α→x≠a∧x≠b:=λx m=>by
  have t:=R.there x m;exact⟨λq=>(by rw[q,na]at t;(first|exact aQ t|exact dA t|exact cL t)),λq=>(by rw[q,nb]at t;(first|exact aQ t|exact dA t|exact cL t))⟩
 refine⟨(R.kp K hL N h0).base,by simp[R.len],λi c d o e1 e2=> ?_,?_,λx m=> ?_,λx m=> ?_⟩
 ·by_cases q:i<α.length
  ·rw[jn q]at e1;rw[jn (R.len▸q)]at e2;refine cM (mW e1) λmc md=> ?_;exact RO.at (rB K na nb la lb) N (λo e=>K.keep c o e λz=>hL (z▸mc)) (λo e=>K.keep d o e λz=>hL (z▸md)) (R.objs i c d o e1 e2)
  ·have hi:i=α.length:=by
    refine bG (fe.mp e1) λl y=> ?_;simp at l;exact k7 (cQ (b:=1) l) (eP.mp q)
   clear q;subst hi;rw[mJ (cH _)]at e1;rw[R.len,mJ (cH _)]at e2;simp at e1 e2;(refine cM e1 λaL aM=> ?_;clear e1;subst aL;subst aM);subst e2;exact new
 ·refine List.pairwise_append.mpr ⟨R.apart,by simp,λp hp q hq=> ?_⟩;rw[fz]at hq;subst hq;have z1:=z p.1 (nY.mpr ⟨p,hp,.inl rfl⟩);have z2:=z p.2 (nY.mpr ⟨p,hp,.inr rfl⟩);exact⟨z1.1,z1.2,z2.1,z2.2⟩
 ·rcases mV.mp m with m|m
  ·exact R.new x m
  ·refine aT (nY.mp m) λp hp q=> ?_;rw[fz]at hp;subst hp;cases e:ag.get? x with
   |none=>rfl
   |some o=>
    have:=R.base x o e;rcases q with q|q<;>subst q
    ·rw[na]at this;exact aQ this
    ·rw[nb]at this;exact aQ this
 ·rcases mV.mp m with m|m
  ·refine nG (R.there x m) λo e=> ?_;rw[K.keep x o e λq=>hL (q▸m)];rfl
  ·refine aT (nY.mp m) λp hp q=> ?_;rw[fz]at hp;subst hp;rcases q with q|q<;>subst q
   ·exact ha
   ·exact hb
noncomputable def og(ag h:aF)(L:aI):List (aI×Obj):=(dK h.objs.size).filterMap λa=>(h.get? a).bind λo=>if(ag.get? a).isNone∧a≠L then some (a,o)else none
set_option tactic.hygienic true in
theorem rA{a:aI}:(a,o)∈og ag h L↔h.get? a=some o∧ag.get? a=none∧a≠L:=by
 unfold og;rw[List.mem_filterMap];constructor
 ·rintro⟨b,_,e⟩;obtain⟨o',e',e⟩:=mK.mp e;split at e
  ·rename_i q;(refine cw e λaL aM=> ?_;clear e;subst aL aM);exact⟨e',by simpa using q.1,q.2⟩
  ·exact aQ e
 ·rintro⟨e,n,l⟩;refine⟨a,gW.mpr (dy e),?_⟩;show(h.get? a).bind _=_;rw[e];exact aP ⟨by simp[n],l⟩
theorem qh:News ag L h (og ag h L):=λp hp=>by
 refine pJ (rA.mp (show(p.1,p.2)∈_ from hp)) λa b c=> ?_;exact⟨a,c,b⟩
theorem sy{m:Str→Option au}{news:List (aI×Obj)}(B:∀b o,ag.get? b=some o→h.get? b=some o)(F:Fr ag L h m)(F':Fr ag L h' m)(N':News ag L h' news)(s:∀p∈og ag h L,p∈news):Kp L h h' where
 keep a o e l:=by
  cases q:ag.get? a with
  |some o'=>
   have:=B a o' q;rw[e]at this;(refine cj this λaL=> ?_;clear this;subst aL);exact F'.keep a o q
  |none=>exact(N' _ (s _ (rA.mpr ⟨e,q,l⟩))).1
 ns m' e:=by rw[e.eq_nsMap,←F.ns.eq_nsMap];exact F'.ns
theorem RE.fr(R:RE ag h aa α ρ)(T:RS ae w ag h α σ):∃m,Fr ag aa.locals h m:=by
 refine aT R.loc λm e z=> ?_;exact⟨m,e,T.base,R.jg⟩
theorem RE.L0(R:RE ag h aa α ρ):ag.get? aa.locals=none:=by
 cases e:ag.get? aa.locals with
 |none=>rfl
 |some o=>exact bP (dy e) (eP.mpr R.jg)
end
structure lW(K:Frag)(ag:aF):Prop where
 pS:K.In ag
 adb:ag.NoLimit
 glob:∃mg,ag.Ns ic mg
 boot:∃mb,ag.Ns qf mb∧∀x:Str,x≠"__name__"→mb x=Dg x
noncomputable def eA:List CE→aO→ah→Option (List PV×ah)
 | [],_,σ=>some ([],σ)
 |c::cs,ρ,σ=>(c ρ σ).bind λr=>(eA cs ρ r.2).bind λq=>some (r.1::q.1,q.2)
noncomputable def aw(i:Int):CE:=λz σ=>some (.int i,σ)
noncomputable def a5(x:String):CE:=λz σ=>some (.str x,σ)
noncomputable def iG(b:Bool):CE:=λz σ=>some (.bool b,σ)
noncomputable def cU:CE:=λz σ=>some (.none,σ)
noncomputable def af(x:String):CE:=λρ σ=>(ρ x).bind λv=>some (v,σ)
noncomputable def bg(cs:List CE):CE:=λρ σ=>(eA cs ρ σ).bind λr=>some (.tup r.1,r.2)
noncomputable def dc(cs:List CE):CE:=λρ σ=>(eA cs ρ σ).bind λr=>some (.lst r.1,r.2)
noncomputable def lX(cs:List CE):CE:=λρ σ=>(eA cs ρ σ).bind λr=>some (.loc r.2.length,r.2++ [.list r.1])
variable{cs:List CE}{k:Nat}{σ:ah}{es:List a6}
section
variable{ae:bw}{w:br}{ag:aF}{K:Frag}{n:Nat}{aa:Env}
def SL(ae:bw)(w:br)(ag:aF)(n:Nat)(aa:Env)(t:Sem (List au))(c:aO→ah→Option (List PV×ah)):Prop:=
 ∀(A:bO) (s:aE) (α:Al) (ρ:aO) (σ:ah) (pv:List PV) (aq:ah) (E:au→aE→Prop) (Q:List au→aE→Prop),fc n A→RE ag s.heap aa α ρ→RS ae w ag s.heap α σ→c ρ σ=some (pv,aq)→
  (∀v h' (tk:TK) aD,cp aa.locals s.heap h' α aD→RS ae w ag h' aD aq→a7 h' aD v pv→Q v {s with heap:=h',toks:=tk.1,drawn:=tk.2})→aY (ba ae w) A t Q E s
theorem abx{pos:Pos}:SL ae w ag n aa (spliced (g9 pos (fW [] aa))) (eA []):=by
 intro A s α ρ σ pv aq E Q _ R T e q;(refine cw e λaL aM=> ?_;clear e;subst aL aM);exact uY (q [] s.heap (s.toks,s.drawn) α (cp.refl ..) T .nil)
theorem ZU{pos:Pos}{e:a6}{av:List a6}{c:CE}(h1:SE ae w ag n aa (eval e aa) c)(h2:SL ae w ag n aa (spliced (g9 pos (fW av aa))) (eA cs))
 (he:fW (e::av) aa=(false,eval e aa)::fW av aa):SL ae w ag n aa (spliced (g9 pos (fW (e::av) aa))) (eA (c::cs)):=by
 intro A s α ρ σ pv aq E Q ho R T e q;refine cy e λp bj e1 e=> ?_;refine cy e λps dt e2 e=> ?_;(refine cw e λaL aM=> ?_;clear e;subst aL aM);refine sE (h1 A s α ρ σ p bj E _ ho R T e1 λv h' tk aD X T' V=> ?_) he;refine h2 A _ aD ρ bj ps _ E _ ho (R.ext X) T' e2 λvs dI c6 d4 X' du Vs=> ?_;exact q _ dI c6 d4 (X.trans X') du (.cons (V.ext X' (R.ext X).ns) Vs)
theorem aby{i:Int}{pos:Pos}:SE ae w ag n aa (eval (.Constant (.int i) k pos) aa) (aw i):=by
 intro A s α ρ σ pv aq E Q _ R T e q;(refine cw e λaL aM=> ?_;clear e;subst aL aM);exact wpAny_Constant_int (q _ s.heap (_,_) α (cp.refl ..) T (.int _ _))
theorem abz{x:String}{pos:Pos}(hx:mR (S x)=true):SE ae w ag n aa (eval (.Constant (.str (S x)) k pos) aa) (a5 x):=by
 intro A s α ρ σ pv aq E Q _ R T e q;(refine cw e λaL aM=> ?_;clear e;subst aL aM);exact wpAny_Constant_str (q _ s.heap (_,_) α (cp.refl ..) T (.str _ _ hx))
theorem ZV{b:Bool}{pos:Pos}:SE ae w ag n aa (eval (.Constant (.bool b) k pos) aa) (iG b):=by
 intro A s α ρ σ pv aq E Q _ R T e q;(refine cw e λaL aM=> ?_;clear e;subst aL aM);exact wpAny_Constant_bool (q _ s.heap (s.toks,s.drawn) α (cp.refl ..) T (.bool _))
theorem ZW{pos:Pos}:SE ae w ag n aa (eval (.Constant .none k pos) aa) cU:=by
 intro A s α ρ σ pv aq E Q _ R T e q;(refine cw e λaL aM=> ?_;clear e;subst aL aM);exact wpAny_Constant_none (q _ s.heap (s.toks,s.drawn) α (cp.refl ..) T .none)
theorem XQ{x:String}{pos:Pos}(hk:aa.kindOf (S x)=some .local)(hd:(S x==("__debug__":Str))=false):SE ae w ag n aa (eval (.Name (S x) pos) aa) (af x):=by
 intro A s α ρ σ pv aq E Q _ R T e q;refine c4 e λp e1 e=> ?_;(refine cw e λaL aM=> ?_;clear e;clear e;subst aL aM);refine aT R.loc λm h1 h2=> ?_;refine aT (h2 x _ hk e1) λv h3 h4=> ?_;exact wpAny_Name (wpAny_loadName_local R.fn hk h1 h3 (q _ s.heap (s.toks,s.drawn) α (cp.refl ..) T h4)) hd
theorem ZX{x:String}{pos:Pos}(hk:aa.kindOf (S x)=some .cell)(hd:(S x==("__debug__":Str))=false):SE ae w ag n aa (eval (.Name (S x) pos) aa) (af x):=by
 intro A s α ρ σ pv aq E Q _ R T e q;refine c4 e λp e1 e=> ?_;(refine cw e λaL aM=> ?_;clear e;clear e;subst aL aM);obtain⟨c,h1,_,_,_,vo,h2,h3⟩:=R.lD x (.inl hk);(refine aT (h3 _ e1) λv aM h4=> ?_;clear h3;subst aM);exact wpAny_Name (wpAny_loadName_cell R.fn hk h1 h2 (q _ s.heap (s.toks,s.drawn) α (cp.refl ..) T h4)) hd
def GV(ae:bw)(w:br)(ag:aF)(aa:Env)(e:a6)(v:au):Prop:=
 ∀(A:bO) (s:aE) (E:au→aE→Prop) (Q:au→aE→Prop),aa.scope.kind= .function→aa.globals=ic→aa.builtins=qf→(∀b o,ag.get? b=some o→s.heap.get? b=some o)→Q v s→aY (ba ae w) A (eval e aa) Q E s
theorem KA{x:Str}(hk:aa.kindOf x=some .globalImplicit)(hf:aa.scope.kind= .function):loadName aa x=loadGlobal aa x:=by
 unfold loadName;have h1:aa.scope.kind.isAnnotationScope=false:=by rw[hf];rfl
 have h2:aa.blockKind= .function:=by unfold Env.blockKind;rw[hf];rfl
 rw[h1,h2,hk];rfl
theorem abA(B:lW K ag){x:String}{pos:Pos}(hk:aa.kindOf (S x)=some .globalImplicit)(hd:(S x==("__debug__":Str))=false)(hg:nsIn K ic (S x)=some (some v)):GV ae w ag aa (.Name (S x) pos) v:=by
 intro A s E Q hf H8 _ hb q;refine wpAny_Name ?_ hd;rw[KA hk hf];refine bG B.glob λmg N=> ?_;unfold loadGlobal;rw[H8];exact aB ((looks_nsIn (M:=ba ae w) B.pS hg) _ _ _ _ hb (a4 q))
theorem ZY(B:lW K ag){x:String}{pos:Pos}(hk:aa.kindOf (S x)=some .globalImplicit)(hd:(S x==("__debug__":Str))=false)(hg:nsIn K ic (S x)=some none)(hn:S x≠"__name__")(hb:Dg (S x)=some v):GV ae w ag aa (.Name (S x) pos) v:=by
 intro A s E Q hf H8 qI BA q;refine wpAny_Name ?_ hd;rw[KA hk hf];refine aT B.boot λmb N hm=> ?_;unfold loadGlobal;rw[H8,qI];refine aB ((looks_nsIn (M:=ba ae w) B.pS hg) _ _ _ _ BA ?_);refine aB ?_;intro Γ p hΓ;rw[Sem.wp_nsGet _ _ _ p s (N.keeps BA),hm _ hn,hb];exact a4 q
theorem LL{e:a6}{p:PV}(G:GV ae w ag aa e v)(hv:∀h α,(∀b o,ag.get? b=some o→h.get? b=some o)→(∀a∈own α,ag.get? a=none)→RV h α v p):SE ae w ag n aa (eval e aa) (λz σ=>some (p,σ)):=by
 intro A s α ρ σ pv aq E Q _ R T e q;(refine cw e λaL aM=> ?_;clear e;subst aL aM);exact G A s E Q R.fn R.gl R.bu T.base (q _ s.heap (s.toks,s.drawn) α (cp.refl ..) T (hv _ _ T.base T.new))
theorem Dw:∀{ρ:aO} {σ:ah} {vs:List PV} {aq:ah},eA cs ρ σ=some (vs,aq)→vs.length=cs.length:=by
 induction cs with
 |nil=>intro ρ σ vs aq e;(refine cw e λaL aM=> ?_;clear e;subst aL aM);rfl
 |cons c cs ih=>
  intro ρ σ vs aq e;refine cy e λp bj e1 e=> ?_;refine cy e λps dt e2 e=> ?_;(refine cw e λaL aM=> ?_;clear e;subst aL aM);simp[ih e2]
theorem kf{h:aF}{α:Al}(T:RS ae w ag h α σ):h.objs.size∉own α:=λm=>by
 refine nG (T.there _ m) λo eo=> ?_;exact bP (dy eo) (gJ _)
theorem XR{pos:Pos}(h:SL ae w ag n aa (spliced (g9 pos (fW es aa))) (eA cs))(hz:cs.length≤1000):SE ae w ag n aa (eval (.Tuple es k pos) aa) (bg cs):=by
 intro A s α ρ σ pv aq E Q ho R T e q;refine cy e λps bj e1 e=> ?_;(refine cw e λaL aM=> ?_;clear e;clear e;subst aL aM);refine wpAny_Tuple (h A s α ρ σ ps _ E _ ho R T e1 λvs h' tk aD X T' V=> ?_);have R':=R.ext X;refine⟨ao (by rw[V.length,Dw e1];exact hz) (by decide),?_⟩;have K:=Kp.push aa.locals h' {cls:= .type "tuple",data:= .seq vs.toArray};exact q _ _ tk aD (X.trans (K.ext aD)) (T'.kp K R'.dX R'.ns R'.L0) (.tup (n:=0) (IsT.new h' vs.toArray) (kf T') (by simpa using V.ext (K.ext aD) R'.ns))
theorem u5(h:aF)(vs:Array au):IsL (h.push {cls:= .type "list",data:= .seq vs}) h.objs.size vs 0:=fP _ rfl
theorem ZZ{pos:Pos}(h:SL ae w ag n aa (spliced (g9 pos (fW es aa))) (eA cs))(hz:cs.length≤1000):SE ae w ag n aa (eval (.List es pos) aa) (dc cs):=by
 intro A s α ρ σ pv aq E Q ho R T e q;refine cy e λps bj e1 e=> ?_;(refine cw e λaL aM=> ?_;clear e;clear e;subst aL aM);refine wpAny_List (h A s α ρ σ ps _ E _ ho R T e1 λvs h' tk aD X T' V=> ?_);have R':=R.ext X;refine⟨ao (by rw[V.length,Dw e1];exact hz) (by decide),?_⟩;have K:=Kp.push aa.locals h' {cls:= .type "list",data:= .seq vs.toArray};exact q _ _ tk aD (X.trans (K.ext aD)) (T'.kp K R'.dX R'.ns R'.L0) (.lst (n:=0) (u5 h' vs.toArray) (kf T') (by simpa using V.ext (K.ext aD) R'.ns))
theorem fR(h:aF):h.get? h.objs.size=none:=by
 cases e:h.get? h.objs.size with
 |none=>rfl
 |some o=>exact bP (dy e) (gJ _)
theorem lT{h:aF}{L:aI}(N:∃m,h.Ns L m):h.objs.size≠L:=λq=>by
 refine bG N λm N=> ?_;exact bP N.lt (by rw[q];exact gJ _)
theorem Z0{pos:Pos}(h:SL ae w ag n aa (spliced (g9 pos (fW es aa))) (eA cs))(hz:cs.length≤1000):SE ae w ag n aa (eval (.List es pos) aa) (lX cs):=by
 intro A s α ρ σ pv aq E Q ho R T e q;refine cy e λps bj e1 e=> ?_;(refine cw e λaL aM=> ?_;clear e;clear e;subst aL aM);refine wpAny_List (h A s α ρ σ ps _ E _ ho R T e1 λvs h' tk aD X T' V=> ?_);have R':=R.ext X;refine⟨ao (by rw[V.length,Dw e1];exact hz) (by decide),?_⟩;have K:=Kp.push aa.locals h' {cls:= .type "list",data:= .seq vs.toArray};have X':cp aa.locals h' _ aD (aD++ [(h'.objs.size,h'.objs.size)]):=rB K (fR _) (fR _) (lT R'.ns) (lT R'.ns);have hs:((h'.push {cls:= .type "list",data:= .seq vs.toArray}).get? h'.objs.size).isSome=true:=by rw[u5];rfl
 refine q _ _ tk _ (X.trans X') (T'.add K (fR _) (fR _) (lT R'.ns) (lT R'.ns) R'.dX R'.ns R'.L0 hs hs ⟨rfl,vs.toArray,0,u5 ..,by simpa using V.ext X' R'.ns⟩) (.loc (b:=h'.objs.size) ?_);rw[←T'.len,mJ (cH _)];simp
end
theorem jz{a b:String}(h:S a=S b):a=b:=by
 unfold S at h;rw[JB,JB]at h;injection h with h;have:Function.Injective Char.toNat:=λx y e=>Char.ext (UInt32.toNat.inj e);exact String.toList_inj.mp ((List.map_inj_right (λx y e=>this e)).mp (by simpa using h))
noncomputable def aO.set(ρ:aO)(x:String)(v:PV):aO:=λy=>if y=x then some v else ρ y
structure dN(aa:Env)(h h':aF)(α aD:Al):Prop where
 keep:∀a o,h.get? a=some o→a∉own α→a≠aa.locals→(∀x,aa.cells.lookup x=some a→ @pI Nat _ a aa.locals)→h'.get? a=some o
 pre:∃β,aD=α++β
 fresh:∀a∈own aD,a∈own α∨(h.get? a=none∧a≠aa.locals)
theorem dN.refl(aa:Env)(h:aF)(α:Al):dN aa h h α α:=⟨λz z e z z z=>e,⟨[],by simp⟩,λz e=> .inl e⟩
theorem cp.st{h:aF}{α:Al}(X:cp aa.locals h h' α aD):dN aa h h' α aD:=⟨λa o e n l z=>X.keep a o e n l,X.pre,X.fresh⟩
theorem dN.mZ{h:aF}{α:Al}(X:dN aa h h' α aD){a:aI}(e:h.get? a=some o)(n:a∉own α):a∉own aD:=λq=>by
 rcases X.fresh a q with q|q
 ·exact n q
 ·rw[q.1]at e;exact aQ e
theorem RE.z9{ag h:aF}{α:Al}(R:RE ag h aa α ρ)(C:∀y c,aa.cells.lookup y=some c→∃x,y=S x∧(aa.kindOf y=some .cell∨aa.kindOf y=some .free)){y:Str}{c:aI}(e:aa.cells.lookup y=some c):c∉own α∧∃vo,h.IsCell c vo:=by
 (refine aT (C y c e) λx aM k=> ?_;subst aM);obtain⟨c',h1,h2,_,_,vo,h5,_⟩:=R.lD x k;rw[e]at h1;(refine cj h1 λaL=> ?_;clear h1;subst aL);exact⟨h2,vo,h5⟩
theorem dN.trans{h pM pN:aF}{α rE qt:Al}(X:dN aa h pM α rE)(Y:dN aa pM pN rE qt)(Cn:∀y c,aa.cells.lookup y=some c→c∉own qt):dN aa h pN α qt where
 keep a o e n l c:=Y.keep a o (X.keep a o e n l c) (X.mZ e n) l c
 pre:=by
  (refine bG X.pre λβ aM=> ?_;clear X;subst aM);(refine bG Y.pre λγ aM=> ?_;clear Cn Y;subst aM);exact⟨β++γ,by simp⟩
 fresh a q:=by
  rcases Y.fresh a q with q|⟨q',l⟩
  ·exact X.fresh a q
  ·by_cases n:a∈own α
   ·exact .inl n
   ·right;refine⟨?_,l⟩;cases e:h.get? a with
    |none=>rfl
    |some o=>rw[X.keep a o e n l λx hx=>bP q (Cn x a hx)]at q';(first|exact aQ q'|exact dA q')
def hF(aa:Env):Prop:=∀y c,aa.cells.lookup y=some c→∃x,y=S x∧(aa.kindOf y=some .cell∨aa.kindOf y=some .free)
theorem RE.cn{ag h:aF}{α:Al}(R:RE ag h aa α ρ)(C:hF aa):∀y c,aa.cells.lookup y=some c→c∉own α:=λz z e=>(R.z9 C e).1
inductive vN(h:aF)(α:Al):Flow→Fl→Prop
 |next:vN h α .next .next
 |brk:vN h α .brk .brk
 |cont:vN h α .cont .cont
 |ret {v:au} {p:PV}:RV h α v p→vN h α (.ret v) (.ret p)
def SS(ae:bw)(w:br)(ag:aF)(n:Nat)(aa:Env)(t:Sem Flow)(c:CS):Prop:=
 ∀(A:bO) (s:aE) (α:Al) (ρ:aO) (σ:ah) (fl:Fl) (ai:aO) (aq:ah) (E:au→aE→Prop) (Q:Flow→aE→Prop),fc n A→RE ag s.heap aa α ρ→RS ae w ag s.heap α σ→c ρ σ=some (fl,ai,aq)→
  (∀f h' (tk:TK) aD,dN aa s.heap h' α aD→RE ag h' aa aD ai→RS ae w ag h' aD aq→vN h' aD f fl→Q f {s with heap:=h',toks:=tk.1,drawn:=tk.2})→aY (ba ae w) A t Q E s
noncomputable def aC:CS:=λρ σ=>some (.next,ρ,σ)
noncomputable def ak(a b:CS):CS:=λρ σ=>(a ρ σ).bind λr=>match r.1 with
 | .next=>b r.2.1 r.2.2
 |f=>some (f,r.2)
noncomputable def bI(c:CE):CS:=λρ σ=>(c ρ σ).bind λr=>some (.ret r.1,ρ,r.2)
noncomputable def ON:CS:=λρ σ=>some (.ret .none,ρ,σ)
noncomputable def bt(t:CB)(a b:CS):CS:=λρ σ=>(t ρ σ).bind λr=>if r.1 then a ρ r.2 else b ρ r.2
noncomputable def bx(x:String)(c:CE):CS:=λρ σ=>(c ρ σ).bind λr=>some (.next,ρ.set x r.1,r.2)
noncomputable def P8:CS:=λρ σ=>some (.brk,ρ,σ)
noncomputable def ET:CS:=λρ σ=>some (.cont,ρ,σ)
variable{cb:CS}
section
variable{ae:bw}{w:br}{ag:aF}{K:Frag}{n:Nat}{aa:Env}
theorem abB:SS ae w ag n aa (execs [] aa) aC:=by
 intro A s α ρ σ fl ai aq E Q _ R T e q;(refine iK e λaL aM eG=> ?_;clear e;subst aL aM eG);exact CR (q .next s.heap (s.toks,s.drawn) α (dN.refl ..) R T .next)
theorem Z1(C:hF aa){st:Stmt}{av:List Stmt}{a b:CS}(h1:SS ae w ag n aa (exec st aa) a)(h2:SS ae w ag n aa (execs av aa) b):SS ae w ag n aa (execs (st::av) aa) (ak a b):=by
 intro A s α ρ σ fl ai aq E Q ho R T e q;refine vL e λaey aA bj e1 e=> ?_;refine wpAny_execs_cons (h1 A s α ρ σ aey aA bj E _ ho R T e1 λf h' tk aD X R' T' F=> ?_);cases F with
 |next=>
  exact h2 A _ aD aA bj fl ai aq E Q ho R' T' e λf dI c6 d4 Y eB du F'=>q f dI c6 d4 (X.trans Y (eB.cn C)) eB du F'
 |brk=>(refine iK e λaL aM eG=> ?_;clear e;clear e;subst aL aM eG);exact q _ h' tk aD X R' T' .brk
 |cont=>(refine iK e λaL aM eG=> ?_;clear e;clear e;subst aL aM eG);exact q _ h' tk aD X R' T' .cont
 |ret v=>(refine iK e λaL aM eG=> ?_;clear e;clear e;subst aL aM eG);exact q _ h' tk aD X R' T' (.ret v)
theorem abC{e:a6}{pos:Pos}{c:CE}(h:SE ae w ag n aa (eval e aa) c):SS ae w ag n aa (exec (.Return (some e) pos) aa) (bI c):=by
 intro A s α ρ σ fl ai aq E Q ho R T e q;refine cy e λv bj e1 e=> ?_;(refine iK e λaL aM eG=> ?_;clear e;subst aL aM eG);exact wpAny_Return_some (h A s α ρ σ v _ E _ ho R T e1 λv h' tk aD X T' V=>q _ h' tk aD X.st (R.ext X) T' (.ret V))
theorem Z2{pos:Pos}:SS ae w ag n aa (exec (.Return none pos) aa) ON:=by
 intro A s α ρ σ fl ai aq E Q _ R T e q;(refine iK e λaL aM eG=> ?_;clear e;subst aL aM eG);exact wpAny_Return_none (q _ s.heap (s.toks,s.drawn) α (dN.refl ..) R T (.ret .none))
theorem abD{pos:Pos}:SS ae w ag n aa (exec (.Break pos) aa) P8:=by
 intro A s α ρ σ fl ai aq E Q _ R T e q;(refine iK e λaL aM eG=> ?_;clear e;subst aL aM eG);exact wpAny_Break (q _ s.heap (s.toks,s.drawn) α (dN.refl ..) R T .brk)
theorem Z3{pos:Pos}:SS ae w ag n aa (exec (.Continue pos) aa) ET:=by
 intro A s α ρ σ fl ai aq E Q _ R T e q;(refine iK e λaL aM eG=> ?_;clear e;subst aL aM eG);exact wpAny_Continue (q _ s.heap (s.toks,s.drawn) α (dN.refl ..) R T .cont)
theorem cp.ql{aa:Env}{h pM pN:aF}{α rE qt:Al}(X:cp aa.locals h pM α rE)(Y:dN aa pM pN rE qt):dN aa h pN α qt where
 keep a o e n l c:=Y.keep a o (X.keep a o e n l) (X.mZ e n) l c
 pre:=by
  (refine bG X.pre λβ aM=> ?_;clear X;subst aM);(refine bG Y.pre λγ aM=> ?_;clear Y;subst aM);exact⟨β++γ,by simp⟩
 fresh a q:=by
  rcases Y.fresh a q with q|⟨q',l⟩
  ·exact X.fresh a q
  ·by_cases n:a∈own α
   ·exact .inl n
   ·right;refine⟨?_,l⟩;cases e:h.get? a with
    |none=>rfl
    |some o=>rw[X.keep a o e n l]at q';(first|exact aQ q'|exact dA q')
theorem ade{t:a6}{a b:List Stmt}{pos:Pos}{c:CB}{ca:CS}(h:SB ae w ag n aa (jS t aa (eval t aa)) c)(h1:SS ae w ag n aa (execs a aa) ca)(h2:SS ae w ag n aa (execs b aa) cb):
 SS ae w ag n aa (exec (.If t a b pos) aa) (bt c ca cb):=by
 intro A s α ρ σ fl ai aq E Q ho R T e q;refine cy e λv bj e1 e=> ?_;refine wpAny_If (h A s α ρ σ v bj E _ ho R T e1 λh' tk aD X T'=> ?_);cases v with
 |true=>
  exact h1 A _ aD ρ bj fl ai aq E Q ho (R.ext X) T' e λf dI c6 d4 Y eB du F=>q f dI c6 d4 (X.ql Y) eB du F
 |false=>
  exact h2 A _ aD ρ bj fl ai aq E Q ho (R.ext X) T' e λf dI c6 d4 Y eB du F=>q f dI c6 d4 (X.ql Y) eB du F
def SN(ae:bw)(w:br)(ag:aF)(aa:Env)(x:String):Prop:=
 ∀(A:bO) (s:aE) (α:Al) (ρ:aO) (σ:ah) (v:au) (p:PV) (E:au→aE→Prop) (Q:Unit→aE→Prop),RE ag s.heap aa α ρ→RS ae w ag s.heap α σ→RV s.heap α v p→
  (∀h' (tk:TK),dN aa s.heap h' α α→RE ag h' aa α (ρ.set x p)→RS ae w ag h' α σ→(∀v p,RV s.heap α v p→RV h' α v p)→Q () {s with heap:=h',toks:=tk.1,drawn:=tk.2})→aY (ba ae w) A (storeName aa (S x) v) Q E s
theorem M8{x:String}{p:PV}{s:aE}{α:Al}{tk:TK}{P:aI}{Q:Unit→aE→Prop}(R:RE ag s.heap aa α ρ)(T:RS ae w ag s.heap α σ)(V:RV s.heap α v p)(hs:∀a,a≠P→h'.get? a=s.heap.get? a)(hP:∀o,s.heap.get? P=some o→Obj.gh o)(hPo:P∉own α)(hP0:ag.get? P=none)
 (hPf:P=aa.locals∨∃y,aa.cells.lookup y=some P∧ @pI Nat _ aa.locals P)
 (hl:∀m,s.heap.Ns aa.locals m→∃m',h'.Ns aa.locals m'∧∀y,aa.kindOf (S y)=some .local→m' (S y)=if y=x then some v else m (S y))
 (hc:∀y c vo,(aa.kindOf (S y)=some .cell∨aa.kindOf (S y)=some .free)→aa.cells.lookup (S y)=some c→s.heap.IsCell c vo→h'.IsCell c (if y=x then some v else vo))
 (q:∀h' (tk:TK),dN aa s.heap h' α α→RE ag h' aa α (ρ.set x p)→RS ae w ag h' α σ→(∀v p,RV s.heap α v p→RV h' α v p)→Q () {s with heap:=h',toks:=tk.1,drawn:=tk.2}):Q () {s with heap:=h',toks:=tk.1,drawn:=tk.2}:=by
 have k:∀a o,s.heap.get? a=some o→¬a=P→h'.get? a=some o:=λa o e l=>(hs a l).trans e;have RP:∀a o,a=P→s.heap.get? a=some o→Obj.gh o:=λa o e g=>hP o (e▸g);have rv:=(RV.nH (α:=α) k RP).1;have pick:∀{y:String} {u:PV} {m m2:Option au},ρ.set x p y=some u→m2=(if y=x then some v else m)→(∀u,ρ y=some u→∃val,m=some val∧RV s.heap α val u)→∃val,m2=some val∧RV h' α val u:=λ{y u m m2} e em h=>by
  unfold aO.set at e;by_cases hy:y=x
  ·rw[aP hy]at e em;exact⟨v,em,rv _ _ (c8 e▸V)⟩
  ·rw[aS hy]at e em;exact aT (h u e) λval e1 e2=>⟨val,em.trans e1,rv _ _ e2⟩
 refine q h' tk ⟨λa o e t l cc=>k a o e λz=>hPf.elim (λh=>l (z.trans h)) λh=>aT h λy h1 h2=>bP (cc y (z▸h1)) (eP.mpr (uE (z▸h2))),⟨[],(gy α).symm⟩,λt e=> .inl e⟩ ?_ (T.nH k RP λa z=>z▸⟨hPo,hP0⟩) rv;refine⟨R.fn,R.gl,R.bu,aT R.loc λm N hm=>aT (hl m N) λm' N' qJ=>⟨m',N',λy u ky ey=>pick ey (qJ y ky) λu e=>hm y u ky e⟩,λy ky=> ?_,R.apart,R.dX,R.jg⟩;obtain⟨c,h1,h2,h3,h4,vo,h5,h6⟩:=R.lD y ky;exact⟨c,h1,h2,h3,h4,_,hc y c vo ky h1 h5,λu ey=>pick ey rfl h6⟩
theorem XS{x:String}(hl:aa.kindOf (S x)=some .local):SN ae w ag aa x:=λA s α ρ σ v p E Q R T V q=>aT R.loc λm N hm=>
 wpAny_storeName_local hl N (λh' hn hs=>M8 (P:=aa.locals) (tk:=(_,_)) R T V hs.2 (λo e=>sG ⟨m,N⟩ e) R.dX R.L0 (.inl rfl)
  (λm2 N2=>⟨_,hn,λy u=>by
   by_cases hy:y=x
   ·rw[aP hy,hy];exact aP rfl
   ·rw[aS hy,(congrFun (N2.eq_nsMap.trans N.eq_nsMap.symm) (S y))];exact aS λz=>hy (jz z)⟩)
  (λy c vo ky h1 h5=>by
   have hy:y≠x:=λz=>by rw[z,hl]at ky;rcases ky with ky|ky<;>exact bP (c8 ky) (by decide)
   rw[aS hy];exact aT h5 λo e1 e2=>⟨o,(hs.2 c λz=>(by rw[z]at e1;exact Vt N ⟨o,e1,e2⟩)).trans e1,e2⟩) q) (by rw[R.fn];rfl)
theorem Z4{x:String}(hl:aa.kindOf (S x)=some .cell)(aez:∀c,aa.cells.lookup (S x)=some c→ @pI Nat _ aa.locals c):SN ae w ag aa x:=λA s α ρ σ v p E Q R T V q=>by
 obtain⟨c,hc,xZ,hcL,hc0,vo,OP,hv⟩:=R.lD x (.inl hl);refine wpAny_storeName_cell R.fn hl hc OP λh' hn hs=>M8 (P:=c) (tk:=(s.toks,s.drawn)) R T V hs.2 (λo e=>Kz OP e) xZ hc0 (.inr ⟨_,hc,aez c hc⟩) (λm N=>⟨m,N.sameBut hs hcL.symm,λy ky=> ?_⟩) (λy c' vo' ky h1 h5=> ?_) q
 ·rw[aS λz=>by rw[z,hl]at ky;exact bP (c8 ky) (by decide)]
 ·by_cases hy:y=x
  ·rw[aP hy];rw[hy,hc]at h1;exact c8 h1▸hn
  ·rw[aS hy];exact aT h5 λo e1 e2=>⟨o,(hs.2 c' λz=>hy (jz (R.apart _ _ c (z▸h1) hc))).trans e1,e2⟩
end
variable{p':Pos}
section
variable{ae:bw}{w:br}{ag:aF}{K:Frag}{n:Nat}{aa:Env}
theorem NZ{x:String}{pos:Pos}{e:a6}{c:CE}(hn:SN ae w ag aa x)(h:SE ae w ag n aa (eval e aa) c)(hs:uO e (some (.Name (S x) p')) pos.line aa=pure false):
 SS ae w ag n aa (exec (.Assign [.Name (S x) p'] e pos) aa) (bx x c):=by
 intro A s α ρ σ fl ai aq E Q ho R T e q;refine cy e λv bj e1 e=> ?_;(refine iK e λaL aM eG=> ?_;clear e;subst aL aM eG);refine wpAny_Assign_Name (h A s α ρ σ v _ E _ ho R T e1 λv h' tk aD X T' V=> ?_) hs;exact hn A _ aD ρ _ v _ E _ (R.ext X) T' V λdI c6 Y R' du rv=>q _ dI c6 aD (X.ql Y) R' du .next
end
noncomputable def bX:List String→List PV→aO→aO
 |x::xs,p::ps,ρ=>bX xs ps (ρ.set x p)
 |_,_,ρ=>ρ
def tA(ae:bw)(w:br)(ag:aF)(n:Nat)(f:aI)(g:List PV→ah→Option (PV×ah)):Prop:=
 ∀(A:bO) (s:aE) (α:Al) (σ:ah) (L:aI) (vs:List au) (args:List PV) (pv:PV) (aq:ah) (E:au→aE→Prop) (Q:au→aE→Prop),fc n A→(∃m,s.heap.Ns L m)→L∉own α→ag.objs.size≤L→RS ae w ag s.heap α σ→
  a7 s.heap α vs args→g args σ=some (pv,aq)→KE ae w ag L s α aq pv Q→aY (ba ae w) A (call (.ref f) vs) Q E s
mutual
noncomputable def PV.lt(n:Nat):PV→Bool
 | .tup l=>eE n l
 | .lst l=>eE n l
 | .loc k=>decide (k<n)
 | .none=>true
 | .bool _=>true
 | .int _=>true
 | .str _=>true
 | .d7 _ _=>true
noncomputable def eE(n:Nat):List PV→Bool
 | []=>true
 |p::ps=>PV.lt n p&&eE n ps
end
def PO.lt(n:Nat):PO→Bool
 | .list l=>eE n l
 | .aU l=>eE n (l.map (·.2))
 | .cZ l=>eE n (l.map (·.2))
 | .inst _ l=>eE n (l.map (·.2))
 | .c7=>true
def nh(σ aq:ah):Prop:=σ.length≤aq.length∧∀i,i<σ.length→aq[i]? =σ[i]? ∨∃o,aq[i]? =some o∧PO.lt σ.length o=true
def pT(n:Nat)(σ:ah):PV→Option PV
 | .loc k=>if k<n then some (.loc k)else match σ[k]? with
  |some (.list l)=>if eE n l then some (.lst l)else none
  |_=>none
 |p=>if PV.lt n p then some p else none
open Classical in
def cI(params:List String)(body:CS):List PV→ah→Option (PV×ah):=λargs σ=>
 if args.length=params.length then(body (bX params args λz=>none) σ).bind λr=>
  if nh σ r.2.2 then(pT σ.length r.2.2 (match r.1 with| .ret v=>v|_=> .none)).bind λv=>some (v,r.2.2.take σ.length)else none
 else none
noncomputable def m7(params:List String)(body:CS):List PV→ah→Option (PV×ah):=λargs σ=>
 if args.length=params.length then(body (bX params args λz=>none) σ).bind λr=>some (match r.1 with| .ret v=>v|_=> .none,r.2.2)else none
def N0(h:aF)(α:Al)(kindOf:Str→Option kJ)(m cm:Str→Option au)(ρ:aO):Prop:=
 ∀x v,ρ x=some v→(kindOf (S x)=some .local→∃val,m (S x)=some val∧RV h α val v)∧(kindOf (S x)=some .cell→∃val,cm (S x)=some val∧RV h α val v)
theorem XT{h:aF}{α:Al}{kindOf:Str→Option kJ}{xs:List String}:∀{vs:List au} {ps:List PV} {m cm:Str→Option au} {ρ:aO},a7 h α vs ps→xs.length=vs.length→(∀x∈xs,kindOf (S x)=some .local∨kindOf (S x)=some .cell)→N0 h α kindOf m cm ρ→
 N0 h α kindOf (bindL kindOf ((xs.map S).zip vs) m) (bindC kindOf ((xs.map S).zip vs) cm) (bX xs ps ρ):=by
 induction xs with
 |nil=>
  exact λ{vs ps _ _ _} V hl _ H=>by
   cases vs with
   |nil=>exact V.jN λz=>z▸H
   |cons=>exact yV hl
 |cons y ys ih=>
  exact λ{vs ps m cm ρ} V hl hk H=>by
   cases vs with
   |nil=>exact yV hl
   |cons u us=>
    refine V.jC λp qG z V1 Vs=>z▸ih (ρ:=ρ.set y p) Vs (Nat.succ.inj hl) (λz hz=>hk z (.tail _ hz)) λz v' e'=> ?_;have ky:=hk y (.head _);unfold aO.set at e';by_cases hz:z=y
    ·replace e':=(aP hz).symm.trans e';rw[hz];have Vv:RV h α u v':=c8 e'▸V1;refine⟨λq=>⟨u,?_,Vv⟩,λq=>⟨u,?_,Vv⟩⟩
     ·rw[aP q];exact aP rfl
     ·rw[aS (by rw[q];exact λz=>bP (c8 z) (by decide))];exact aP rfl
    ·rw[aS hz]at e';have ne:S z≠S y:=λq=>hz (jz q);have H':=H z v' e';rcases ky with ky|ky
     ·rw[aP ky,aP ky];exact⟨λq=>aT (H'.1 q) λval a b=>⟨val,(aS ne).trans a,b⟩,H'.2⟩
     ·have kn:¬kindOf (S y)=some .local:=by rw[ky];exact λz=>bP (c8 z) (by decide)
      rw[aS kn,aS kn];exact⟨H'.1,λq=>aT (H'.2 q) λval a b=>⟨val,(aS ne).trans a,b⟩⟩
theorem C5(names:List (Str×kJ)):∀(n:Nat) (acc:List (Str×aI)) (y:Str) (c:aI),(y,c)∈ju n names acc→(y,c)∈acc∨(y,wB)∈names:=by
 induction names with
 |nil=>exact λz z z z h=> .inl h
 |cons zk r ih=>
  intro n acc y c h;unfold ju at h;by_cases hk:(zk.2== .cell)=true
  ·rw[aP hk]at h;exact(ih _ _ y c h).elim (λh=>(cG.mp h).elim (λh=> .inr ((show(y,wB)=zk from Prod.ext (Dp h).1 (eF.mp hk).symm)▸ .head _)) .inl) λh=> .inr (.tail _ h)
  ·rw[aS hk]at h;exact(ih _ _ y c h).elim .inl λh=> .inr (.tail _ h)
def rC(scope:Scope)(params:List String):Prop:=
 (scope.kind= .function∧scope.isGenerator=false∧scope.isCoroutine=false)∧(∀x∈scope.names,x.2≠ .free)∧(∀y k,(y,k)∈scope.names→scope.names.lookup y=some k)∧(∀y,(y,wB)∈scope.names→∃x,y=S x)∧
 (∀x∈params,scope.names.lookup (S x)=some .local∨scope.names.lookup (S x)=some .cell)
variable{fd:nX}{params:List String}{args:List PV}{body:List Stmt}{aq:ah}
section
variable{ae:bw}{w:br}{ag:aF}{K:Frag}{n:Nat}
theorem VY{L a:aI}(O:rC fd.scope params):hF (jd fd L a):=by
 intro y c e;have m:=C5 _ _ _ _ _ (mem_of_lookup e);rcases m with m|m
 ·cases m
 ·(refine bG (O.2.2.2.1 y m) λx aM=> ?_;clear e;subst aM);exact⟨x,rfl,.inl (O.2.2.1 _ _ m)⟩
theorem a7.mono{h:aF}{α:Al}(k:∀a o,h.get? a=some o→h'.get? a=some o)(V:a7 h α vs ps):a7 h' α vs ps:=
 (RV.nH (α:=α) (P:=λz=>False) (λa o e z=>k a o e) (λz z q=>q.elim)).2 _ _ V
theorem RS.mono{h:aF}{α:Al}(k:∀a o,h.get? a=some o→h'.get? a=some o)(T:RS ae w ag h α σ):RS ae w ag h' α σ:=
 T.nH (P:=λz=>False) (λa o e z=>k a o e) (λz z q=>q.elim) (λz q=>q.elim)
theorem VZ{s cV:aE}{a:aI}{α:Al}(O:rC fd.scope params)(hg:fd.globals=ic)(qI:fd.builtins=qf)
 (hz:ag.objs.size≤s.heap.objs.size) (T:RS ae w ag s.heap α σ) (V:a7 s.heap α vs args) (bJ:vs.length=params.length)
 (I:InCallC s (jd fd s.heap.objs.size a).locals (bindL (jd fd s.heap.objs.size a).kindOf ((params.map S).zip vs) λz=>none) (jd fd s.heap.objs.size a).cells
  (bindC (jd fd s.heap.objs.size a).kindOf ((params.map S).zip vs) λz=>none) cV):
 RE ag cV.heap (jd fd s.heap.objs.size a) α (bX params args λz=>none):=by
 have key:=XT (kindOf:=(jd fd s.heap.objs.size a).kindOf) (m:=λz=>none) (cm:=λz=>none) (ρ:=λz=>none) (a7.mono I.toInCall.keep V) bJ.symm O.2.2.2.2 λx v e=>aQ e;have RQ:∀x∈own α,x<s.heap.objs.size:=λx m=>by
  refine nG (T.there x m) λo e=> ?_;exact dy e
 refine⟨O.1.1,hg,qI,⟨_,I.toInCall.ns,λx v k e=>(key x v e).1 k⟩,λx k=> ?_,λx y c e1 e2=> ?_,λm=>bP (RQ _ m) (gJ _),hz⟩
 ·have k':(jd fd s.heap.objs.size a).kindOf (S x)=some .cell:=by
   rcases k with k|k
   ·exact k
   ·exact bP rfl (O.2.1 _ (mem_of_lookup (show fd.scope.names.lookup (S x)=some .free from k)))
  refine nG (cellsFrom_some fd.scope.names (s.heap.objs.size+1) [] (x:=S x) (.inl k')) λc hc=> ?_;have nI:=I.above _ _ (mem_of_lookup hc);refine⟨c,hc,λm=>bP (RQ _ m) (eP.mpr (uE nI)),nU nI,?_,_,I.cell _ _ hc,λv e=>(key x v e).2 k'⟩;cases q:ag.get? c with
  |none=>rfl
  |some o=>exact bP (dy q) (eP.mpr (ao hz (uE nI)))
 ·exact name_of_addr I.apart (mem_of_lookup e1) (mem_of_lookup e2)
theorem fc.deeper{n:Nat}{A:bO}(h:fc (n+1) A)(aa:Env):fc n (A.deeper aa):=by
 (refine pJ h λa b c=> ?_;clear h);refine⟨a,?_,?_⟩
 ·show A.depth+1+8*n<1000;lia
 ·show A.units+3+40*n+200<9900;lia
def n8(ae:bw)(w:br)(ag:aF)(n:Nat)(f:aI)(g:List PV→ah→Option (PV×ah)):Prop:=
 ∀(A:bO) (s:aE) (α:Al) (σ:ah) (L:aI) (vs:List au) (args:List PV) (pv:PV) (aq:ah) (E:au→aE→Prop) (Q:au→aE→Prop),fc n A→(∃m,s.heap.Ns L m)→L∉own α→ag.objs.size≤L→RS ae w ag s.heap α σ→
  a7 s.heap α vs args→g args σ=some (pv,aq)→KE ae w ag L s α aq pv Q→jQ (ba ae w) A (.call (.ref f) ⟨vs,[]⟩) (λr s'=>match r with| .ok (.ret v)=>Q v s'| .ok _=>False| .error e=>E e s') s
theorem n8.fn{f:aI}{g:List PV→ah→Option (PV×ah)}(h:n8 ae w ag n f g):tA ae w ag n f g:=
 λA s α σ L vs args pv aq E Q ho N hL hz T V e q=>sC (h A s α σ L vs args pv aq E Q ho N hL hz T V e q)
theorem OQ{h:aF}{L:aI}(N:∃m,h.Ns L m):L≤h.objs.size:=by obtain⟨m,N⟩:=N;exact uE N.lt
theorem Ea(KB:lW K ag){f:aI}{c:CS}{oc:au}{od:Option aI}{vO:Array (Option au)}
 (hf:K.lookup f=some ⟨oc,od,.func fd,vO⟩) (rQ:codeIn K fd.code fd.qualname=true) (xo:fd.body= .stmts body) (xG:fd.closure= []) (hg:fd.globals=ic) (qI:fd.builtins=qf)
 (lY:∀vs:List au,vs.length=params.length→sL fd ⟨vs,[]⟩=pure ((params.map S).zip vs)) (O:rC fd.scope params)
 (hs:∀L,SS ae w ag n (jd fd L f) (execs body (jd fd L f)) c)
 (A:bO) (s:aE) (α:Al) (σ:ah) (vs:List au) (args:List PV) (fl:Fl) (ai:aO) (aq:ah) (E:au→aE→Prop) (Q:au→aE→Prop) (ho:fc (n+1) A) (H9:ag.objs.size≤s.heap.objs.size)
 (T:RS ae w ag s.heap α σ) (V:a7 s.heap α vs args) (bJ:args.length=params.length) (e:c (bX params args λu=>none) σ=some (fl,ai,aq))
 (q:∀v h' (tk:TK) aD,(∀a o,s.heap.get? a=some o→a∉own α→h'.get? a=some o)→(∃β,aD=α++β)→(∀a∈own aD,a∈own α∨s.heap.get? a=none)→RS ae w ag h' aD aq→RV h' aD v (match(generalizing:=false) fl with| .ret p=>p|_=> .none)→Q v {s with heap:=h',toks:=tk.1,drawn:=tk.2}):
 jQ (ba ae w) A (.call (.ref f) ⟨vs,[]⟩) (λr s'=>match r with| .ok (.ret v)=>Q v s'| .ok _=>False| .error e=>E e s') s:=by
 have hv:vs.length=params.length:=V.length.trans bJ;refine codeAny_call_cells (fd:=fd) (body:=body) (binds:=(params.map S).zip vs) (by have:=ho.2.1;exact ao (bH (bR _ _) 1) this) (T.base _ _ (KB.pS _ _ hf)) rfl (KB.adb.keeps T.base) (codeRec_of (KB.pS.keeps T.base) rQ) xo (lY vs hv) xG ?_ (λcV I=> ?_) O.1.2.2 O.1.2.1 O.1.1
 ·refine kindsX (fU.mpr λy hy=> ?_) _;obtain⟨y1,y2⟩:=y;have vP:=List.of_mem_zip hy;(refine aT (dR.mp vP.1) λx hx aM=> ?_;clear hy vP;subst aM);rcases O.2.2.2.2 x hx with q|q<;>simp[q]
 ·(refine gM I.toInCall.same λh1 RT eG=> ?_;subst eG);have k1:∀a o,s.heap.get? a=some o→h1.get? a=some o:=I.toInCall.keep;refine hs s.heap.objs.size (A.deeper _) _ α (bX params args λu=>none) σ fl ai aq _ _ (ho.deeper _) (VZ (ae:=ae) (w:=w) O hg qI H9 T V hv I) (T.mono k1) e λf' h' tk aD X R' T' F=> ?_;have keep:∀a o,s.heap.get? a=some o→a∉own α→h'.get? a=some o:=λa o ea na=>by
   refine X.keep a o (k1 a o ea) na (λz=> ?_) λx hx=> ?_
   ·rw[show(jd fd s.heap.objs.size f).locals=s.heap.objs.size from rfl]at z;rw[z]at ea;exact bP (dy ea) (gJ _)
   ·exact bP (dy ea) (eP.mpr (uE (I.above _ _ (mem_of_lookup hx))))
  have fresh:∀a∈own aD,a∈own α∨s.heap.get? a=none:=λa m=>by
   rcases X.fresh a m with q|q
   ·exact .inl q
   ·right;cases ea:s.heap.get? a with
    |none=>rfl
    |some o=>rw[k1 a o ea]at q;cases q.1
  cases F with
  |next=>exact q .none h' tk aD keep X.pre fresh T' .none
  |brk=>exact q .none h' tk aD keep X.pre fresh T' .none
  |cont=>exact q .none h' tk aD keep X.pre fresh T' .none
  |ret V'=>exact q _ h' tk aD keep X.pre fresh T' V'
theorem XU(KB:lW K ag){f:aI}{c:CS}{oc:au}{od:Option aI}{vO:Array (Option au)}
 (hf:K.lookup f=some ⟨oc,od,.func fd,vO⟩) (rQ:codeIn K fd.code fd.qualname=true) (xo:fd.body= .stmts body) (xG:fd.closure= []) (hg:fd.globals=ic) (qI:fd.builtins=qf)
 (lY:∀vs:List au,vs.length=params.length→sL fd ⟨vs,[]⟩=pure ((params.map S).zip vs)) (O:rC fd.scope params)
 (hs:∀L,SS ae w ag n (jd fd L f) (execs body (jd fd L f)) c):n8 ae w ag (n+1) f (m7 params c):=by
 intro A s α σ L vs args pv aq E Q ho N hL hz T V e q;unfold m7 at e;split at e
 ·rename_i bJ;refine vL e λfl ai bj e1 e=> ?_;have e2:=c8 e;have e3:=bV z0 e2;have e4:=bV wY e2;dsimp only at e3 e4;subst e3 e4;refine Ea KB hf rQ xo xG hg qI lY O hs A s α σ vs args fl ai bj E Q ho (ao hz (OQ N)) T V bJ e1 λv h' tk aD k p fr T' V'=>q v h' tk aD ⟨λa o ea na z=>k a o ea na,λm hm=> ?_,p,λa m=> ?_⟩ T' V'
  ·(refine ku hm λo es ep hh r=> ?_;clear hm);exact⟨o,es,ep,k L o hh hL,r⟩
  ·rcases fr a m with x|x
   ·exact .inl x
   ·by_cases l:a=L
    ·(refine xF N λm' o es ep hh r=> ?_;clear N);rw[l,hh]at x;(first|exact aQ x|exact dA x)
    ·exact .inr ⟨x,l⟩
 ·exact aQ e
theorem Aa{h:aF}{α:Al}:(∀v p,RV h α v p→PV.lt α.length p=true)∧∀vs ps,a7 h α vs ps→eE α.length ps=true:=
 have ml:∀{a b:aI} {n:Nat},α[n]? =some (a,b)→PV.lt α.length (.loc n)=true:=λe=>bN (fe.mp e).1
 ⟨λz z V=>RV.rec (motive_1:=λv p z=>PV.lt α.length p=true) (motive_2:=λvs ps z=>eE α.length ps=true) rfl (λz=>rfl) (λz z=>rfl) (λz z z=>rfl) (λz z z r=>r) (λz z z r=>r) (λz z=>rfl) ml rfl (λz z a b=>h8.mpr ⟨a,b⟩) V,
  λz z V=>a7.rec (motive_1:=λv p z=>PV.lt α.length p=true) (motive_2:=λvs ps z=>eE α.length ps=true) rfl (λz=>rfl) (λz z=>rfl) (λz z z=>rfl) (λz z z r=>r) (λz z z r=>r) (λz z=>rfl) ml rfl (λz z a b=>h8.mpr ⟨a,b⟩) V⟩
theorem wU{h:aF}{α β:Al}:(∀v p,RV h (α++β) v p→PV.lt α.length p=true→RV h α v p)∧∀vs ps,a7 h (α++β) vs ps→eE α.length ps=true→a7 h α vs ps:=
 have no:∀{a:aI},a∉own (α++β)→a∉own α:=λhn m=>hn (mV.mpr (.inl m));have mo:∀{a b:aI} {n:Nat},(α++β)[n]? =some (a,b)→PV.lt α.length (.loc n)=true→RV h α (.ref a) (.loc n):=λ{a b n} e k=> .loc (b:=b) ((jn (fQ k)).symm.trans e)
 ⟨λz z V=>RV.rec (motive_1:=λv p z=>PV.lt α.length p=true→RV h α v p) (motive_2:=λvs ps z=>eE α.length ps=true→a7 h α vs ps) (λz=> .none) (λb z=> .bool b) (λi t z=> .int i t) (λx t k z=> .str x t k) (λht hn z r k=> .tup ht (no hn) (r k)) (λht hn z r k=> .lst ht (no hn) (r k)) (λht hn z=> .d7 ht (no hn)) mo (λz=> .nil) (λz z a b k=>have k:=h8.mp k; .cons (a k.1) (b k.2)) V,
  λz z V=>a7.rec (motive_1:=λv p z=>PV.lt α.length p=true→RV h α v p) (motive_2:=λvs ps z=>eE α.length ps=true→a7 h α vs ps) (λz=> .none) (λb z=> .bool b) (λi t z=> .int i t) (λx t k z=> .str x t k) (λht hn z r k=> .tup ht (no hn) (r k)) (λht hn z r k=> .lst ht (no hn) (r k)) (λht hn z=> .d7 ht (no hn)) mo (λz=> .nil) (λz z a b k=>have k:=h8.mp k; .cons (a k.1) (b k.2)) V⟩
theorem RV.cut{h:aF}{α β:Al}{p:PV}(V:RV h (α++β) v p)(k:PV.lt α.length p=true):RV h α v p:=wU.1 _ _ V k
theorem RA.lt{h:aF}{α:Al}:∀{es:List lR} {l:List (String×PV)},RA w h α es l→eE α.length (l.map (·.2))=true:=by
 intro es
 induction es with
 |nil=>
  exact λ{l} r=>by
   cases l with
   |nil=>rfl
   |cons=>exact r.elim
 |cons e es ih=>
  exact λ{l} r=>by
   cases l with
   |nil=>exact r.elim
   |cons p l=>exact h8.mpr ⟨Aa.1 _ _ r.2.2.1,ih r.2.2.2⟩
theorem RA.cut{h:aF}{α β:Al}:∀{es:List lR} {l:List (String×PV)},RA w h (α++β) es l→eE α.length (l.map (·.2))=true→RA w h α es l:=by
 intro es
 induction es with
 |nil=>exact λ{l} r k=>by cases l<;>exact r
 |cons e es ih=>
  exact λ{l} r k=>by
   cases l with
   |nil=>exact r
   |cons p l=>exact have k:=h8.mp k;⟨r.1,r.2.1,r.2.2.1.cut k.1,ih r.2.2.2 k.2⟩
theorem RO.lt{h:aF}{α:Al}{a b:aI}{o:PO}(r:RO ae w h α a b o):PO.lt α.length o=true:=by
 cases o with
 |list l=>exact gD r.2 λz z z h2=>Aa.2 _ _ h2
 |aU l=>exact cY r.2 λz z z h2=>Aa.2 _ _ h2
 |cZ l=>exact cY r.2 λz z z h2=>Aa.2 _ _ h2
 |inst C l=>exact gD r.2.2 λz z z h2=>h2.lt
 |c7=>rfl
theorem RO.cut{h:aF}{α β:Al}{a b:aI}{o:PO}(r:RO ae w h (α++β) a b o)(k:PO.lt α.length o=true):RO ae w h α a b o:=by
 cases o with
 |list l=>exact⟨r.1,gD r.2 λvs n h1 h2=>⟨vs,n,h1,wU.2 _ _ h2 k⟩⟩
 |aU l=>exact⟨r.1,cY r.2 λkvs h1 h2 h3=>⟨kvs,h1,h2,wU.2 _ _ h3 k⟩⟩
 |cZ l=>exact⟨r.1,cY r.2 λkvs h1 h2 h3=>⟨kvs,h1,h2,wU.2 _ _ h3 k⟩⟩
 |inst C l=>exact⟨r.1,r.2.1,gD r.2.2 λes n h2 h3=>⟨es,n,h2,h3.cut k⟩⟩
 |c7=>exact r
theorem RS.cut{h:aF}{α β:Al}(T:RS ae w ag h α σ)(T':RS ae w ag h' (α++β) aq)(O:nh σ aq):RS ae w ag h' α (aq.take σ.length)where
 base:=T'.base
 len:=by rw[CO,T.len];exact(CU O.1).symm
 objs i a b o e1 e2:=by
  refine bG (fe.mp e1) λq y=> ?_;have qs:i<σ.length:=T.len▸q;rw[T9 qs]at e2;have r:=T'.objs i a b o ((jn q).trans e1) e2;refine r.cut ?_;rcases O.2 i qs with z|⟨o',z,k⟩
  ·rw[z]at e2;exact(T.objs i a b o e1 e2).lt
  ·rw[z]at e2;(refine cj e2 λaL=> ?_;clear e2;clear r;subst aL);rw[T.len];exact k
 apart:=T.apart
 new:=T.new
 there a m:=T'.there a (mV.mpr (.inl m))
theorem N3{h:aF}{α β:Al}(T':RS ae w ag h (α++β) aq){p p':PV}(V:RV h (α++β) v p)(e:pT α.length aq p=some p'):RV h α v p':=by
 have pl:(if PV.lt α.length p=true then some p else none)=some p'→RV h α v p':=λe=>gF e λz e=>c8 e▸V.cut z;cases p with
 |loc k=>
  unfold pT at e;dsimp only at e;by_cases hk:k<α.length
  ·rw[aP hk]at e;exact c8 e▸V.cut (bN hk)
  ·replace e:=(aS hk).symm.trans e;cases eo:aq[k]? with
   |none=>rw[eo]at e;exact aQ e
   |some o=>
    rw[eo]at e;cases o with
    |list l=>
     exact gF e λz e=>RV.eO V λa b ea=>gD (T'.objs k _ _ _ ea eo).2 λvs n h1 h2=>c8 e▸ .lst h1 (λm=>aT (nY.mp m) λpr hp hq=>bG (Cv hp) λi hi=>by
      have il:=(fe.mp hi).1;have:=apart_at T'.apart ((jn il).trans hi) ea λz=>hk (z▸il);exact hq.elim (λq=>this.1 q.symm) λq=>this.2.2.1 q.symm) (wU.2 _ _ h2 z)
    |_=>exact aQ e
 |_=>exact pl e
theorem Z5(KB:lW K ag){f:aI}{c:CS}{oc:au}{od:Option aI}{vO:Array (Option au)}
 (hf:K.lookup f=some ⟨oc,od,.func fd,vO⟩) (rQ:codeIn K fd.code fd.qualname=true) (xo:fd.body= .stmts body) (xG:fd.closure= []) (hg:fd.globals=ic) (qI:fd.builtins=qf)
 (lY:∀vs:List au,vs.length=params.length→sL fd ⟨vs,[]⟩=pure ((params.map S).zip vs)) (O:rC fd.scope params)
 (hs:∀L,SS ae w ag n (jd fd L f) (execs body (jd fd L f)) c):tA ae w ag (n+1) f (cI params c):=by
 intro A s α σ L vs args pv aq E Q ho N hL hz T V e q;unfold cI at e;split at e
 ·rename_i bJ;refine vL e λfl ai bj e1 e=> ?_;dsimp only at e;split at e
  ·rename_i OO;refine c4 e λp' e2 e=> ?_;(refine cw e λaL aM=> ?_;clear e;subst aL aM);refine sC (Ea KB hf rQ xo xG hg qI lY O hs A s α σ vs args fl ai bj E Q ho (ao hz (OQ N)) T V bJ e1 λv h' tk aD k p fr T' V'=> ?_);(refine bG p λβ aM=> ?_;clear p;clear fr;subst aM);refine q v h' tk α ⟨λa o ea na z=>k a o ea na,λm hm=> ?_,⟨[],by simp⟩,λa m=> .inl m⟩ (T.cut T' OO) (N3 T' V' (T.len▸e2));(refine ku hm λo es ep hh r=> ?_;clear hm);exact⟨o,es,ep,k L o hh hL,r⟩
  ·exact aQ e
 ·exact aQ e
end
noncomputable def notStar:a6→Bool
 | .Starred .. =>false
 |_=>true
theorem oR{e:a6}(h:notStar e=true)(av:List a6)(aa:Env):fW (e::av) aa=(false,eval e aa)::fW av aa:=by
 cases e<;>first|rfl|cases h
theorem lO:∀{es:List a6},es.all notStar=true→∀(pos:Pos) (aa:Env),(g9 pos (fW es aa)).any (·.1)=false
 | [],_,_,_=>rfl
 |e::es,h,pos,aa=>by
  simp only[wC,ia]at h;rw[oR h.1];show(false||(g9 pos (fW es aa)).any (·.1))=false;rw[lO h.2];rfl
theorem nV{M:Model}{A:bO}{E:au→aE→Prop}{s:aE}{f:au}{pos:Pos}{Q:Args→aE→Prop}:∀{es:List a6},es.all notStar=true→
 aY M A (spliced (g9 pos (fW es aa))) (λvs s'=>Q ⟨vs,[]⟩ s') E s→aY M A (evalArgs f true (g9 pos (fW es aa)) []) Q E s:=by
 intro x0
 induction x0 with
 |nil=>
  intro _ h;refine aB (fD h (λvs s' h'=> ?_) λz z x=>x);refine fA ?_;exact aB (a4 (aB (a4 (a4 h'))))
 |cons e es ih=>
  intro k h;simp only[wC,ia]at k;rw[oR k.1]at h⊢;exact evalArgs_plain h
variable{m:Nat}{Q:au→aE→Prop}
section
variable{ae:bw}{w:br}{ag:aF}{K:Frag}{n:Nat}{aa:Env}
def Callee(ae:bw)(w:br)(ag:aF)(f:au):Prop:=∀h:aF,(∀b o,ag.get? b=some o→h.get? b=some o)→∃k,(k=Keeper.frame∨k=Keeper.machine∨k=Keeper.boundFrame)∧Looks (ba ae w) h (keeperOf f) k
theorem DN(B:lW K ag){f:au}(hk:keepIn K f=true):Callee ae w ag f:=λh k=>keeps_K hk h (B.pS.keeps k)
theorem oS{id:String}:Callee ae w ag (.builtin id):=λz z=>⟨.machine,.inr (.inl rfl),Looks.now⟩
theorem oZ{T:String}:Callee ae w ag (.type T):=λz z=>⟨.machine,.inr (.inl rfl),Looks.now⟩
def eh(ae:bw)(w:br)(ag:aF)(n:Nat)(f:au)(g:List PV→ah→Option (PV×ah)):Prop:=
 ∀(A:bO) (s:aE) (α:Al) (σ:ah) (L:aI) (vs:List au) (args:List PV) (pv:PV) (aq:ah) (E:au→aE→Prop) (Q:au→aE→Prop),fc n A→(∃m,s.heap.Ns L m)→L∉own α→ag.objs.size≤L→RS ae w ag s.heap α σ→
  a7 s.heap α vs args→g args σ=some (pv,aq)→KE ae w ag L s α aq pv Q→aY (ba ae w) A (call f vs) Q E s
theorem tA.call{f:aI}{g:List PV→ah→Option (PV×ah)}(h:tA ae w ag n f g):eh ae w ag n (.ref f) g:=h
theorem fc.mono{A:bO}(h:fc n A)(k:m≤n):fc m A:=⟨h.1,by have:=h.2.1;lia,by have:=h.2.2;lia⟩
theorem eh.mono{f:au}{g:List PV→ah→Option (PV×ah)}(h:eh ae w ag n f g)(k:n≤m):eh ae w ag m f g:=
 λA s α σ L vs args pv aq E Q ho=>h A s α σ L vs args pv aq E Q (ho.mono k)
noncomputable def aN(g:List PV→ah→Option (PV×ah))(cs:List CE):CE:=λρ σ=>(eA cs ρ σ).bind λr=>g r.1 r.2
theorem Vd{f:au}{g:List PV→ah→Option (PV×ah)}{pos:Pos}(hc:Callee ae w ag f)(hp:es.all notStar=true)(hf:eh ae w ag n f g)(ha:SL ae w ag n aa (spliced (g9 pos (fW es aa))) (eA cs)):
 SE ae w ag n aa (callWith pos f [] (g9 pos (fW es aa)) []) (aN g cs):=by
 intro A s α ρ σ pv aq E Q ho R T e q;refine cy e λargs bj e1 e=> ?_;refine o6 (P:=λh=>∀b o,ag.get? b=some o→h.get? b=some o) (by rw[lO hp];rfl) hc (nV hp (ha A s α ρ σ args bj E _ ho R T e1 λvs h' tk aD X T' V=>⟨T'.base,?_⟩));have R':=R.ext X;exact hf A _ aD bj aa.locals vs args pv aq E Q ho R'.ns R'.dX R'.jg T' V e λv dI c6 d4 Y du V'=>q v dI c6 d4 (X.trans Y) du V'
theorem Z6{x:String}{p pos:Pos}{f:au}{g:List PV→ah→Option (PV×ah)}(G:GV ae w ag aa (.Name (S x) p) f)(hc:Callee ae w ag f)(hp:es.all notStar=true)(hf:eh ae w ag n f g)
 (ha:SL ae w ag n aa (spliced (g9 pos (fW es aa))) (eA cs)):SE ae w ag n aa (eval (.Call (.Name (S x) p) es [] pos) aa) (aN g cs):=by
 intro A s α ρ σ pv aq E Q ho R T e q;exact Call_ (G A s E _ R.fn R.gl R.bu T.base (Vd hc hp hf ha A s α ρ σ pv aq E Q ho R T e q))
theorem Eb{h:aF}{α:Al}(T:RS ae w ag h α σ){C:Nat}{l:List (String×PV)}(V:RV h α v (.loc k))(e:σ[k]? =some (.inst C l)):
 ∃a b es n,v= .ref a∧α[k]? =some (a,b)∧a≠b∧h.get? b=some (dictOf es n)∧W.InstAt h a (instObj C b) C (some (dictOf es n))∧RA w h α es l:=by
 cases V with
 |loc ea=>
  obtain⟨z,h1,es,n,h2,h3⟩:=T.objs k _ _ _ ea e;exact⟨_,_,es,n,rfl,ea,z,h2,⟨h1,rfl,rfl,h2⟩,h3⟩
theorem M9{h:aF}{α:Al}{x:String}:∀{es:List lR} {l:List (String×PV)},RA w h α es l→∀{p:PV},l.lookup x=some p→∃e,es.find? (·.key.isStr (S x))=some e∧RV h α e.val p
 | [],[],_,p,e=>by cases e
 |d::es,(y,u)::l,⟨⟨t,a⟩,b,c,r⟩,p,e=>by
  by_cases q:x=y
  ·clear b;subst q;rw[ke,nQ]at e;(refine cj e λaL=> ?_;clear e;subst aL);refine⟨d,?_,c⟩;rw[wu,a];simp[Value.isStr]
  ·rw[ke,kc.mpr q]at e;refine aT (M9 r e) λd' h1 h2=> ?_;refine⟨d',?_,h2⟩;rw[wu,a];have:(eQ (S y) t).isStr (S x)=false:=by
    exact kc.mpr λz=>q (jz z.symm)
   rw[this];exact h1
 | [],_::_,k,_,_=>k.elim
 |_::_,[],k,_,_=>k.elim
theorem Na{h:aF}{α:Al}{x:String}:∀{es:List lR} {l:List (String×PV)},RA w h α es l→l.lookup x=none→es.find? (·.key.isStr (S x))=none∧es.any (·.refKey)=false
 | [],[],_,_=>⟨rfl,rfl⟩
 |d::es,(y,u)::l,⟨⟨t,a⟩,b,c,r⟩,e=>by
  by_cases q:x=y
  ·clear a b c;subst q;rw[ke,nQ]at e;(first|exact aQ e|exact dA e)
  ·rw[ke,kc.mpr q]at e;refine cM (Na r e) λh1 h2=> ?_;have:d.key.isStr (S x)=false:=by
    rw[a];exact kc.mpr λz=>q (jz z.symm)
   refine⟨?_,?_⟩
   ·rw[wu,this];exact h1
   ·rw[uD,h2];unfold UJ;rw[a];rfl
 | [],_::_,k,_=>k.elim
 |_::_,[],k,_=>k.elim
def zQ(K:Frag)(C:Nat)(x:String):Prop:=jy K (.ref C) "__getattribute__"=some (some (.builtin "object.__getattribute__"))∧(∃cd,clsIn K C=some cd∧cd.hasDict=true)∧jy K (.ref C) (S x)=some none
theorem RV.handed{h:aF}{α:Al}{p:PV}(V:RV h α v p):handedIn v=true:=by cases V<;>rfl
theorem Vz(B:lW K ag){x:String}{expr:Bool}{A:bO}{s:aE}{α:Al}{C:Nat}{l:List (String×PV)}{p:PV}{E:au→aE→Prop}
 (hC:zQ K C x) (T:RS ae w ag s.heap α σ) (V:RV s.heap α v (.loc k)) (e:σ[k]? =some (.inst C l)) (el:l.lookup x=some p) (q:∀v,RV s.heap α v p→Q v {s with toks:=s.toks+1}):aY (ba ae w) A (getAttr v (S x) expr) Q E s:=by
 (refine G8 (Eb T V e) λa b es n gR z z z I r=> ?_;clear V;subst gR);refine aT (M9 r el) λd hd V'=> ?_;(refine pJ hC λtX aL ji=> ?_;clear hC;obtain⟨cd,rQ,adf⟩:=aL);refine get_value (B.pS.keeps T.base) I tX (v:=d.val) ?_ V'.handed (q _ V');unfold findObj;rw[rQ,ji];dsimp only[Dq];have:W.ownOf cd (some (dictOf es n)) (S x)=some (some d.val):=by
  unfold W.ownOf;rw[aP adf];unfold lookIn;simp only[hd]
 rw[this]
noncomputable def fi(o:CE)(C:Nat)(x:String)(g:List PV→ah→Option (PV×ah))(cs:List CE):CE:=λρ σ=>(o ρ σ).bind λr=>match r.1 with
 | .loc k=>match r.2[k]? with
  |some (.inst C' l)=>if C'=C∧l.lookup x=none then(eA cs ρ r.2).bind λq=>g (.loc k::q.1) q.2 else none
  |_=>none
 |_=>none
def Ec(K:Frag)(C:Nat)(x:String)(f:aI):Prop:=jy K (.ref C) "__getattribute__"=some (some (.builtin "object.__getattribute__"))∧jy K (.ref C) "__getattr__"=some none∧jy K (.ref C) (S x)=some (some (.ref f))∧typeIn K (.ref f)=some (.type "function")∧keepIn K (.ref f)=true
theorem Z7(B:lW K ag){o:a6}{x:String}{apos pos:Pos}{c:CE}{C f:Nat}{g:List PV→ah→Option (PV×ah)}(hC:Ec K C x f)(h:SE ae w ag n aa (eval o aa) c)(hp:es.all notStar=true)
 (hf:eh ae w ag n (.ref f) g) (ha:∀pos,SL ae w ag n aa (spliced (g9 pos (fW es aa))) (eA cs)) {pl:Sem Bool}
 (he:eval (.Call (.Attribute o (S x) apos) es [] pos) aa=(do
  let ov←eval o aa
  ig apos.atName
  let(f,first)←holding [ov] (getMethod ov (S x) pl)
  callWith pos f first (g9 pos (fW es aa)) (backToKw pos (Ds [] aa)))):
 SE ae w ag n aa (eval (.Call (.Attribute o (S x) apos) es [] pos) aa) (fi c C x g cs):=by
 intro A s α ρ σ pv aq E Q ho R T e q;refine cy e λv bj e1 e=> ?_;cases v with
 |loc k=>
  dsimp only at e;cases e2:bj[k]? with
  |none=>rw[e2]at e;exact aQ e
  |some o'=>cases o' with
   |inst C' l=>
    rw[e2]at e;refine gF e λhq e=> ?_;(refine cy e λargs dt e3 e4=> ?_;clear e);have ji:=hq.2;have BB:=hq.1;clear hq;subst BB;refine methodCall_KW (pl:=pl) (h A s α ρ σ _ _ E _ ho R T e1 λv h' tk aD X T' V=> ?_) he;(refine G8 (Eb T' V e2) λa b ens n' gR ea z z I r=> ?_;subst gR);(refine vr hC λtX hk hm ht pU=> ?_;clear hC);refine method_fn (s:={s with heap:=h',toks:=tk.1,drawn:=tk.2}) (B.pS.keeps T'.base) I tX hk hm ht (by
     unfold shadowIn lookIn;refine cM (Na r ji) λz1 z2=> ?_;simp only[z1,z2];rfl) ?_
    have R':=R.ext X;refine o6 (P:=λh=>∀b o,ag.get? b=some o→h.get? b=some o) (by rw[lO hp];rfl) (DN B pU) (nV hp (ha pos A _ aD ρ _ args dt E _ ho R' T' e3 λvs dI c6 d4 Y du Vs=>⟨du.base,?_⟩));have eB:=R'.ext Y;exact hf A _ d4 dt aa.locals (.ref a::vs) _ pv aq E Q ho eB.ns eB.dX eB.jg du (.cons (V.ext Y R'.ns) Vs) e4 λv h3 gS iu Z T3 V3=>q v h3 gS iu ((X.trans Y).trans Z) T3 V3
   |_=>rw[e2]at e;exact aQ e
 |_=>exact aQ e
end
noncomputable def cB(c:CE):CB:=λρ σ=>(c ρ σ).bind λr=>match r.1 with
 | .bool b=>some (b,r.2)
 |_=>none
noncomputable def cJ(c:CB):CE:=λρ σ=>(c ρ σ).bind λr=>some (.bool r.1,r.2)
noncomputable def bY(c:CB):CB:=λρ σ=>(c ρ σ).bind λr=>some (!r.1,r.2)
noncomputable def xp(k:Bool):List CB→CB
 | [],_,σ=>some (!k,σ)
 |c::cs,ρ,σ=>(c ρ σ).bind λr=>if r.1=k then some (k,r.2)else xp k cs ρ r.2
noncomputable def fk:List CB→CB:=xp false
noncomputable def dh:List CB→CB:=xp true
noncomputable def fm(t:CB)(a b:CE):CE:=λρ σ=>(t ρ σ).bind λr=>if r.1 then a ρ r.2 else b ρ r.2
abbrev gq:=ah→PV→PV→Option Bool
noncomputable def aJ(f:gq)(a b:CE):CB:=λρ σ=>(a ρ σ).bind λr=>(b ρ r.2).bind λq=>(f q.2 r.1 q.1).bind λt=>some (t,q.2)
noncomputable def pq(f g:gq)(a b c:CE):CB:=λρ σ=>(a ρ σ).bind λr=>(b ρ r.2).bind λq=>(f q.2 r.1 q.1).bind λt=>if t then(c ρ q.2).bind λz=>(g z.2 q.1 z.1).bind λt=>some (t,z.2)else some (false,q.2)
abbrev lF:=ah→PV→PV→Option (PV×ah)
noncomputable def bU(f:lF)(a b:CE):CE:=λρ σ=>(a ρ σ).bind λr=>(b ρ r.2).bind λq=>f q.2 r.1 q.1
noncomputable def mh(f:PV→Option PV)(a:CE):CE:=λρ σ=>(a ρ σ).bind λr=>(f r.1).bind λv=>some (v,r.2)
section
variable(ae:bw)(w:br)(ag:aF)
def fq(n:Nat)(op:CmpOp)(f:gq):Prop:=
 ∀(A:bO) (s:aE) (α:Al) (σ:ah) (L:aI) (v u:au) (a b:PV) (r:Bool) (E:au→aE→Prop) (Q:au→aE→Prop),fc n A→(∃m,s.heap.Ns L m)→L∉own α→ag.objs.size≤L→RS ae w ag s.heap α σ→
  RV s.heap α v a→RV s.heap α u b→f σ a b=some r→(∀(tk:TK),Q (.bool r) {s with toks:=tk.1,drawn:=tk.2})→aY (ba ae w) A (uP op v u) Q E s
def oj(n:Nat)(op:Operator)(f:lF):Prop:=
 ∀(A:bO) (s:aE) (α:Al) (σ:ah) (L:aI) (v u:au) (a b pv:PV) (aq:ah) (E:au→aE→Prop) (Q:au→aE→Prop),fc n A→(∃m,s.heap.Ns L m)→L∉own α→ag.objs.size≤L→RS ae w ag s.heap α σ→
  RV s.heap α v a→RV s.heap α u b→f σ a b=some (pv,aq)→KE ae w ag L s α aq pv Q→aY (ba ae w) A (binaryOp op v u) Q E s
end
variable{op:CmpOp}{f:gq}{whole:Sem au}
section
variable{ae:bw}{w:br}{ag:aF}{K:Frag}{n:Nat}{aa:Env}
theorem abE{l r:a6}{op:Operator}{pos:Pos}{a b:CE}{f:lF}(hf:oj ae w ag n op f)(ha:SE ae w ag n aa (eval l aa) a)(hb:SE ae w ag n aa (eval r aa) b):SE ae w ag n aa (eval (.BinOp l op r pos) aa) (bU f a b):=by
 intro A s α ρ σ pv aq E Q ho R T e q;refine cy e λx bj e1 e=> ?_;refine cy e λy dt e2 e=> ?_;refine wpAny_BinOp (ha A s α ρ σ x bj E _ ho R T e1 λv h' tk aD X T' V=> ?_);have R':=R.ext X;refine hb A _ aD ρ bj y dt E _ ho R' T' e2 λu dI c6 d4 Y du U=> ?_;have eB:=R'.ext Y;exact hf A _ d4 dt aa.locals v u x y pv aq E Q ho eB.ns eB.dX eB.jg du (V.ext Y R'.ns) U e λz h3 gS iu Z T3 V3=>q z h3 gS iu ((X.trans Y).trans Z) T3 V3
theorem Mn{l r:a6}{a b:CE}(hf:fq ae w ag n op f)(ha:SE ae w ag n aa (eval l aa) a)(hb:SE ae w ag n aa (eval r aa) b)
 {A:bO} {s:aE} {α:Al} {t:Bool} {E:au→aE→Prop} (ho:fc n A) (R:RE ag s.heap aa α ρ) (T:RS ae w ag s.heap α σ) (e:aJ f a b ρ σ=some (t,aq))
 (q:∀h' (tk:TK) aD,cp aa.locals s.heap h' α aD→RS ae w ag h' aD aq→Q (.bool t) {s with heap:=h',toks:=tk.1,drawn:=tk.2}):
 aY (ba ae w) A (eval l aa) (λv cV=>aY (ba ae w) A (eval r aa) (λu fF=>aY (ba ae w) A (uP op v u) Q E fF) E cV) E s:=by
 refine cy e λx bj e1 e=> ?_;refine cy e λy dt e2 e=> ?_;refine c4 e λt' e3 e=> ?_;cases e;refine ha A s α ρ σ x bj E _ ho R T e1 λv h' tk aD X T' V=> ?_;have R':=R.ext X;refine hb A _ aD ρ bj y _ E _ ho R' T' e2 λu dI c6 d4 Y du U=> ?_;have eB:=R'.ext Y;exact hf A _ d4 _ aa.locals v u x y t E Q ho eB.ns eB.dX eB.jg du (V.ext Y R'.ns) U e3 λgS=>q dI gS d4 (X.trans Y) du
theorem abF{l r:a6}{pos:Pos}{a b:CE}(hf:fq ae w ag n op f)(ha:SE ae w ag n aa (eval l aa) a)(hb:SE ae w ag n aa (eval r aa) b)
 (hm:C9 op r=false):SB ae w ag n aa (jS (.Compare l [op] [r] pos) aa whole) (aJ f a b):=by
 intro A s α ρ σ t aq E Q ho R T e q;exact wpAny_isTrue_Compare1 (Mn hf ha hb ho R T e λh' tk aD X T'=>oQ (q h' tk aD X T')) hm
theorem abG{l r:a6}{pos:Pos}{a b:CE}(hf:fq ae w ag n op f)(ha:SE ae w ag n aa (eval l aa) a)(hb:SE ae w ag n aa (eval r aa) b)
 (hm:C9 op r=false):SE ae w ag n aa (eval (.Compare l [op] [r] pos) aa) (cJ (aJ f a b)):=by
 intro A s α ρ σ pv aq E Q ho R T e q;refine cy e λt bj e1 e=> ?_;(refine cw e λaL aM=> ?_;clear e;clear e;subst aL aM);exact wpAny_Compare1 (Mn hf ha hb ho R T e1 λh' tk aD X T'=>q _ h' tk aD X T' (.bool t)) hm
theorem LM{l pO lx:a6}{pA pB:CmpOp}{a b c:CE}{g:gq}(hf:fq ae w ag n pA f)(hg:fq ae w ag n pB g)(ha:SE ae w ag n aa (eval l aa) a)(hb:SE ae w ag n aa (eval pO aa) b)(hc:SE ae w ag n aa (eval lx aa) c)
 {A:bO} {s:aE} {α:Al} {t:Bool} {E:au→aE→Prop} {Q:Bool→aE→Prop} (ho:fc n A) (R:RE ag s.heap aa α ρ) (T:RS ae w ag s.heap α σ) (e:pq f g a b c ρ σ=some (t,aq))
 (q:∀h' (tk:TK) aD,cp aa.locals s.heap h' α aD→RS ae w ag h' aD aq→Q t {s with heap:=h',toks:=tk.1,drawn:=tk.2}):
 aY (ba ae w) A (eval l aa) (λv cV=>aY (ba ae w) A (eval pO aa) (λu fF=>aY (ba ae w) A (uP pA v u) (λx qz=>∃t1,x= .bool t1∧(t1=false→Q false qz)∧(t1=true→aY (ba ae w) A (eval lx aa) (λy xH=>aY (ba ae w) A (uP pB u y) (λz Hd=>∃t2,z= .bool t2∧Q t2 Hd) E xH) E qz)) E fF) E cV) E s:=
 cy e λx bj e1 e=>cy e λy dt e2 e=>c4 e λt' e3 e=>ha A s α ρ σ x bj E _ ho R T e1 λv h' tk aD X T' V=>have R':=R.ext X
  hb A _ aD ρ bj y _ E _ ho R' T' e2 λu dI c6 d4 Y du U=>have eB:=R'.ext Y
  hf A _ d4 _ aa.locals v u x y t' E _ ho eB.ns eB.dX eB.jg du (V.ext Y R'.ns) U e3 λgS=>⟨t',rfl,λz=>by
   rw[z]at e;exact cw e λe4 e5=>e4▸q dI gS d4 (X.trans Y) (e5▸du),λz=>by
   rw[z]at e;exact cy e λz om e4 e=>c4 e λt2 e5 e=>cw e λe6 e7=>hc A _ d4 ρ dt z _ E _ ho eB du e4 λu2 h3 mi iu Z T3 U2=>have R3:=eB.ext Z
    hg A _ iu _ aa.locals u u2 y z t2 E _ ho R3.ns R3.dX R3.jg T3 (U.ext Z eB.ns) U2 e5 λpV=>⟨t2,rfl,e6▸q h3 pV iu ((X.trans Y).trans Z) (e7▸T3)⟩⟩
theorem Z8{l pO lx:a6}{pA pB:CmpOp}{pos:Pos}{a b c:CE}{g:gq}(hf:fq ae w ag n pA f)(hg:fq ae w ag n pB g)(ha:SE ae w ag n aa (eval l aa) a)(hb:SE ae w ag n aa (eval pO aa) b)(hc:SE ae w ag n aa (eval lx aa) c)
 (hm:lastMarks [pA,pB] [pO,lx]=false):SB ae w ag n aa (jS (.Compare l [pA,pB] [pO,lx] pos) aa whole) (pq f g a b c):=λA s α ρ σ t aq E Q ho R T e q=>
 isTrue_chain (ops:= []) (rs:= []) (fD (LM hf hg ha hb hc ho R T e q) (λv cV h=>test_link (fD h (λu fF h=>fD h (λx qz h=>cY h λt1 z h1 h2=>z▸oQ (by
  cases t1
  ·exact h1 rfl
  ·exact test_last (fD (h2 rfl) (λy xH h=>fD h (λz Hd h=>aT h λt2 z h=>z▸oQ h) λr r x=>x) λr r x=>x))) λr r x=>x) λr r x=>x)) λr r x=>x) hm
theorem Z9{l pO lx:a6}{pA pB:CmpOp}{pos:Pos}{a b c:CE}{g:gq}(hf:fq ae w ag n pA f)(hg:fq ae w ag n pB g)(ha:SE ae w ag n aa (eval l aa) a)(hb:SE ae w ag n aa (eval pO aa) b)(hc:SE ae w ag n aa (eval lx aa) c)
 (hm:lastMarks [pA,pB] [pO,lx]=false):SE ae w ag n aa (eval (.Compare l [pA,pB] [pO,lx] pos) aa) (cJ (pq f g a b c)):=λA s α ρ σ pv aq E Q ho R T e q=>cy e λt rO e e'=>cw e' λz1 z2=>
 Compare_chain (ops:= []) (rs:= []) (fD (LM (Q:=λt=>Q (.bool t)) hf hg ha hb hc ho R T e λh' tk aD X T'=>q _ h' tk aD X (z2▸T') (z1▸ .bool t)) (λv cV h=>chain_link (fD h (λu fF h=>fD h (λx qz h=>cY h λt1 z h1 h2=>z▸oQ (by
  cases t1
  ·exact h1 rfl
  ·exact chain_last (fD (h2 rfl) (λy xH h=>fD h (λz Hd h=>aT h λt2 z h=>z▸h) λr r x=>x) λr r x=>x))) λr r x=>x) λr r x=>x)) λr r x=>x) hm
theorem Ar{c:CE}{b:Bool}(e:cB c ρ σ=some (b,aq)):c ρ σ=some (.bool b,aq):=cy e λx rO e1 e=>by
 cases x with
 |bool=>exact cw e λz1 z2=>z1▸z2▸e1
 |_=>exact aQ e
theorem abH{e:a6}{c:CE}(h:SE ae w ag n aa (eval e aa) c)(he:∀whole,jS e aa whole=(do let v←whole;ig e.pos;holding [v] (truthy v))):SB ae w ag n aa (jS e aa (eval e aa)) (cB c):=λA s α ρ σ t aq E Q ho R T ec q=>
 wpAny_isTrue_value (h A s α ρ σ _ _ E _ ho R T (Ar ec) λv h' tk aD X T' V=>V.iB λz=>z▸oQ (q h' tk aD X T')) (he _)
theorem abI{x:a6}{pos:Pos}{c:CB}(h:SB ae w ag n aa (jS x aa (eval x aa)) c):SB ae w ag n aa (jS (.UnaryOp .Not x pos) aa whole) (bY c):=by
 intro A s α ρ σ t aq E Q ho R T e q;refine cy e λb bj e1 e=> ?_;(refine cw e λaL aM=> ?_;clear e;clear e;subst aL aM);exact wpAny_isTrue_Not (h A s α ρ σ b _ E _ ho R T e1 λh' tk aD X T'=>q h' tk aD X T')
noncomputable def tY(ae:bw)(w:br)(ag:aF)(n:Nat)(aa:Env):List a6→List CB→Prop
 | [],[]=>True
 |e::es,c::cs=>SB ae w ag n aa (jS e aa (eval e aa)) c∧tY ae w ag n aa es cs
 |_,_=>False
theorem Mo{op:BoolOp}{k:Bool}(hn:∀{A:bO} {s:aE} {E:au→aE→Prop} {Q:Bool→aE→Prop},Q (!k) s→aY (ba ae w) A (allTrue op [] aa) Q E s)
 (hc:∀{A:bO} {s:aE} {E:au→aE→Prop} {Q:Bool→aE→Prop} {x:a6} {av:List a6},aY (ba ae w) A (jS x aa (eval x aa)) (λb cV=>(b=k→Q k cV)∧(¬b=k→aY (ba ae w) A (allTrue op av aa) Q E cV)) E s→aY (ba ae w) A (allTrue op (x::av) aa) Q E s):
 ∀{cs:List CB},tY ae w ag n aa es cs→SB ae w ag n aa (allTrue op es aa) (xp k cs):=by
 induction es with
 |nil=>
  exact λ{cs} h A s α ρ σ t aq E Q ho R T e q=>by
   cases cs with
   |nil=>exact cw e λz1 z2=>hn (z1▸q s.heap (s.toks,s.drawn) α (cp.refl ..) (z2▸T))
   |cons=>exact h.elim
 |cons x es ih=>
  exact λ{cs} h A s α ρ σ t aq E Q ho R T e q=>by
   cases cs with
   |nil=>exact h.elim
   |cons c cs=>exact cy e λb bj e1 e=>hc (h.1 A s α ρ σ b bj E _ ho R T e1 λh' tk aD X T'=>⟨λz=>cw ((aP z).symm.trans e) λz1 z2=>z1▸q h' tk aD X (z2▸T'),
    λz=>ih h.2 A _ aD ρ bj t aq E Q ho (R.ext X) T' ((aS z).symm.trans e) λdI c6 d4 Y du=>q dI c6 d4 (X.trans Y) du⟩)
theorem aaa{cs:List CB}:tY ae w ag n aa es cs→SB ae w ag n aa (allTrue .And es aa) (fk cs):=Mo wpAny_allTrue_And_nil λh=>wpAny_allTrue_And_cons (fD h (λb cV h=>by
 cases b
 ·exact h.1 rfl
 ·exact h.2 λz=>pL z) λy y x=>x)
theorem abJ{cs:List CB}:tY ae w ag n aa es cs→SB ae w ag n aa (allTrue .Or es aa) (dh cs):=Mo wpAny_allTrue_Or_nil λh=>wpAny_allTrue_Or_cons (fD h (λb cV h=>by
 cases b
 ·exact h.2 λz=>cL z
 ·exact h.1 rfl) λy y x=>x)
theorem abK{cs:List CB}{pos:Pos}(h:tY ae w ag n aa es cs):SB ae w ag n aa (jS (.BoolOp .And es pos) aa whole) (fk cs):=by
 intro A s α ρ σ t aq E Q ho R T e q;exact wpAny_isTrue_BoolOp (aaa h A s α ρ σ t aq E Q ho R T e q)
theorem adg{cs:List CB}{pos:Pos}(h:tY ae w ag n aa es cs):SB ae w ag n aa (jS (.BoolOp .Or es pos) aa whole) (dh cs):=by
 intro A s α ρ σ t aq E Q ho R T e q;exact wpAny_isTrue_BoolOp (abJ h A s α ρ σ t aq E Q ho R T e q)
noncomputable def tZ(ae:bw)(w:br)(ag:aF)(n:Nat)(aa:Env):List a6→List CE→Prop
 | [],[]=>True
 |e::es,c::cs=>SE ae w ag n aa (eval e aa) c∧tZ ae w ag n aa es cs
 |_,_=>False
theorem LN{op:BoolOp}{k:Bool}{pos:Pos}(hc:∀{A:bO} {s:aE} {E:au→aE→Prop} {Q:au→aE→Prop} {t t':Sem au} {av:List (Sem au)},aY (ba ae w) A t (λv cV=>∃b,v= .bool b∧(b=k→Q v cV)∧(¬b=k→aY (ba ae w) A (boolOp pos op (t'::av)) Q E cV)) E s→aY (ba ae w) A (boolOp pos op (t::t'::av)) Q E s):
 ∀{e:a6} {c:CE} {cs:List CE},tZ ae w ag n aa (e::es) (c::cs)→SE ae w ag n aa (boolOp pos op (evalEach (e::es) aa)) (cJ (xp k ((c::cs).map cB))):=by
 induction es with
 |nil=>
  exact λ{e c cs} h A s α ρ σ pv aq E Q ho R T ec q=>by
   cases cs with
   |nil=>
    refine cy ec λb bj e1 ec=>cy e1 λb' dt e2 e1=>cw ec λz1 z2=>h.1 A s α ρ σ _ _ E Q ho R T (Ar e2) ?_;by_cases z:b'=k
    ·exact cw ((aP z).symm.trans e1) λz3 z4=>λv h' tk aD X T' V=>q v h' tk aD X (z2▸z4▸T') (z1▸z3▸z▸V)
    ·exact cw ((aS z).symm.trans e1) λz3 z4=>λv h' tk aD X T' V=>q v h' tk aD X (z2▸z4▸T') (z1▸z3▸(show b'= !k by cases b'<;>cases k<;>first|rfl|exact bP rfl z)▸V)
   |cons=>exact h.2.elim
 |cons e' es ih=>
  exact λ{e c cs} h A s α ρ σ pv aq E Q ho R T ec q=>by
   cases cs with
   |nil=>exact h.2.elim
   |cons c' cs=>exact cy ec λb bj e1 ec=>cy e1 λb' dt e2 e1=>hc (h.1 A s α ρ σ _ _ E _ ho R T (Ar e2) λv h' tk aD X T' V=>V.iB λzv=>⟨b',zv,λz=>cw ((aP z).symm.trans e1) λz3 z4=>cw ec λz1 z2=>q v h' tk aD X (z2▸z4▸T') (z1▸z3▸z▸V),
    λz=>ih h.2 A _ aD ρ _ _ _ E Q ho (R.ext X) T' ((bV (λo=>o.bind λr:Bool×ah=>some (PV.bool r.1,r.2)) ((aS z).symm.trans e1)).trans ec) λv dI c6 d4 Y du V=>q v dI c6 d4 (X.trans Y) du V⟩)
theorem bool_and{e:a6}{c:CE}{pos:Pos}:tZ ae w ag n aa (e::es) (c::cs)→SE ae w ag n aa (boolOp pos .And (evalEach (e::es) aa)) (cJ (fk ((c::cs).map cB))):=LN λ{A s E Q t t' av} h=>by
 show aY _ _ (do
  let v←t
  ig pos
  let b←holding [v] (truthy v)
  match BoolOp.And,b with
  | .And,false| .Or,true=>pure v
  |_,_=>boolOp pos .And (t'::av)) _ _ _
 exact aB (fD h (λv cV h=>aB (oW (aB (fA (cY h λb z h1 h2=>z▸oQ (by
  cases b
  ·exact a4 (z▸h1 rfl)
  ·exact h2 λz=>pL z)))))) λy y x=>x)
theorem aab{e:a6}{c:CE}{pos:Pos}:tZ ae w ag n aa (e::es) (c::cs)→SE ae w ag n aa (boolOp pos .Or (evalEach (e::es) aa)) (cJ (dh ((c::cs).map cB))):=LN λ{A s E Q t t' av} h=>by
 show aY _ _ (do
  let v←t
  ig pos
  let b←holding [v] (truthy v)
  match BoolOp.Or,b with
  | .And,false| .Or,true=>pure v
  |_,_=>boolOp pos .Or (t'::av)) _ _ _
 exact aB (fD h (λv cV h=>aB (oW (aB (fA (cY h λb z h1 h2=>z▸oQ (by
  cases b
  ·exact h2 λz=>cL z
  ·exact a4 (z▸h1 rfl))))))) λy y x=>x)
theorem abL{e:a6}{c:CE}{pos:Pos}(h:tZ ae w ag n aa (e::es) (c::cs)):SE ae w ag n aa (eval (.BoolOp .And (e::es) pos) aa) (cJ (fk ((c::cs).map cB))):=bool_and h
theorem adh{e:a6}{c:CE}{pos:Pos}(h:tZ ae w ag n aa (e::es) (c::cs)):SE ae w ag n aa (eval (.BoolOp .Or (e::es) pos) aa) (cJ (dh ((c::cs).map cB))):=aab h
theorem abM{t a b:a6}{pos:Pos}{c:CB}{ca cb:CE}(h:SB ae w ag n aa (jS t aa (eval t aa)) c)(h1:SE ae w ag n aa (eval a aa) ca)(h2:SE ae w ag n aa (eval b aa) cb):SE ae w ag n aa (eval (.IfExp t a b pos) aa) (fm c ca cb):=by
 intro A s α ρ σ pv aq E Q ho R T e q;refine cy e λv bj e1 e=> ?_;refine wpAny_IfExp (h A s α ρ σ v bj E _ ho R T e1 λh' tk aD X T'=> ?_);cases v with
 |true=>exact h1 A _ aD ρ bj pv aq E Q ho (R.ext X) T' e λv dI c6 d4 Y du F=>q v dI c6 d4 (X.trans Y) du F
 |false=>exact h2 A _ aD ρ bj pv aq E Q ho (R.ext X) T' e λv dI c6 d4 Y du F=>q v dI c6 d4 (X.trans Y) du F
theorem abN{x:a6}{pos:Pos}{c:CE}(h:SE ae w ag n aa (eval x aa) c):SE ae w ag n aa (eval (.UnaryOp .Not x pos) aa) (cJ (bY (cB c))):=λA s α ρ σ pv aq E Q ho R T e q=>cy e λb bj e1 e=>cy e1 λb' dt e2 e1=>cw e λz1 z2=>cw e1 λz3 z4=>
 wpAny_UnaryOp (h A s α ρ σ _ _ E _ ho R T (Ar e2) λv h' tk aD X T' V=>V.iB λz=>z▸not_of (oQ (q _ h' tk aD X (z2▸z4▸T') (z1▸z3▸ .bool _))))
noncomputable def l6:PV→Option PV
 | .int i=>some (.int (-i))
 |_=>none
theorem abO{x:a6}{pos:Pos}{c:CE}(h:SE ae w ag n aa (eval x aa) c):SE ae w ag n aa (eval (.UnaryOp .USub x pos) aa) (mh l6 c):=λA s α ρ σ pv aq E Q ho R T e q=>cy e λx bj e1 e=>c4 e λy e2 e=>cw e λz1 z2=>by
 cases x with
 |int i=>exact cj e2 λz=>wpAny_UnaryOp (h A s α ρ σ _ _ E _ ho R T e1 λv h' tk aD X T' V=>V.iI λt zv=>zv▸P.neg_int (q _ h' (_,_) aD X (z2▸T') (z1▸z▸ .int _ _)))
 |_=>exact aQ e2
end
mutual
noncomputable def PV.py:PV→Option lV
 | .none=>some .none
 | .bool b=>some (.bool b)
 | .int i=>some (.int i)
 | .str x=>some (.str (S x))
 | .tup l=>(jZ l).map .tuple
 | .lst l=>(jZ l).map .list
 | .d7 _ _=>none
 | .loc _=>none
noncomputable def jZ:List PV→Option (List lV)
 | []=>some []
 |p::ps=>(PV.py p).bind λd=>(jZ ps).map (d::·)
end
noncomputable def dp(σ:ah):PV→PV
 | .loc k=>match σ[k]? with
  |some (.list l)=> .lst l
  |_=> .loc k
 |p=>p
def bA:gq:=λσ a b=>((dp σ a).py).bind λx=>((dp σ b).py).bind λy=>if min x.depth y.depth≤64 then some (lP x y)else none
def cA:gq:=λσ a b=>(bA σ a b).map (!·)
def di:gq:=λσ a b=>match dp σ b with
 | .tup l=>(a.py).bind λd=>(jZ l).bind λxs=>if d.depth≤64 then some (xs.any λy=>lP y d)else none
 | .lst l=>((dp σ a).py).bind λd=>(jZ l).bind λxs=>if d.depth≤64 then some (xs.any λy=>lP y d)else none
 | .loc k=>match σ[k]?,a with
  |some (.aU l),.int i=>some ((l.lookup i).isSome)
  |some (.cZ l),.str x=>some ((l.lookup x).isSome)
  |_,_=>none
 |_=>none
def ej:gq:=λσ a b=>(di σ a b).map (!·)
noncomputable def xI(f:Int→Int→Bool)(a b:PV):Option Bool:=match a with
 | .int i=>match b with
  | .int j=>some (f i j)
  |_=>none
 |_=>none
def hU:gq:=λz=>xI λi j=>decide (i<j)
def kR:gq:=λz=>xI λi j=>decide (i≤j)
def kB:gq:=λz=>xI λi j=>decide (i>j)
def t8:gq:=λz=>xI λi j=>decide (i≥j)
noncomputable def Ab:gq:=λz a b=>match b with
 | .none=>some (match a with| .none=>true|_=>false)
 |_=>none
abbrev Rd(h:aF)(v:au)(p:PV):Prop:=∀d,p.py=some d→d.canLay0=true∧∃as,Reads h v d as
abbrev qK(h:aF)(vs:List au)(ps:List PV):Prop:=∀ds,jZ ps=some ds→PyData.canLayAll0 ds=true∧∃as,ReadsAll h vs ds as
theorem Lp{h:aF}{α:Al}:(∀{v:au} {p:PV},RV h α v p→Rd h v p)∧∀{vs:List au} {ps:List PV},a7 h α vs ps→qK h vs ps:=by
 have m1:Rd h .none .none:=λy e=>cj e λz=>z▸⟨rfl,_,.none⟩;have m2:∀b,Rd h (.bool b) (.bool b):=λb y e=>cj e λz=>z▸⟨rfl,_,.bool b⟩;have m3:∀i t,Rd h (.int i t) (.int i):=λi t y e=>cj e λz=>z▸⟨rfl,_,.int i t⟩;have m4:∀x t,mR (S x)=true→Rd h (.str (S x) t) (.str x):=λx t k y e=>cj e λz=>z▸⟨k,_,.str _ t⟩;have m5:∀{a:aI} {vs:Array au} {n:Nat} {ps:List PV},IsT h a vs n→a∉own α→a7 h α vs.toList ps→qK h vs.toList ps→Rd h (.ref a) (.tup ps):=λht y y r y e=>iX e λds e1 z=>z▸qH (r ds e1) λas a b=>⟨a,as,reads_tuple_at ht rfl rfl b⟩;have m6:∀{a:aI} {vs:Array au} {n:Nat} {ps:List PV},IsL h a vs n→a∉own α→a7 h α vs.toList ps→qK h vs.toList ps→Rd h (.ref a) (.lst ps):=λht y y r y e=>iX e λds e1 z=>z▸qH (r ds e1) λas a b=>⟨a,_,reads_list_at ht rfl rfl b⟩;have m8:qK h [] []:=λy e=>cj e λz=>z▸⟨rfl,_,.nil⟩;have m9:∀{v:au} {p:PV} {vs:List au} {ps:List PV},RV h α v p→a7 h α vs ps→Rd h v p→qK h vs ps→qK h (v::vs) (p::ps):=λy y h1 r y e=>c4 e λd e1 e2=>iX e2 λds e3 z=>z▸qH (h1 d e1) λas a b=>qH (r ds e3) λas' a' b'=>⟨h8.mpr ⟨a,a'⟩,_,.cons b b'⟩;exact⟨λV=>RV.rec (motive_1:=λv p y=>Rd h v p) (motive_2:=λvs ps y=>qK h vs ps) m1 m2 m3 m4 m5 m6 (λy y y e=>aQ e) (λy y e=>aQ e) m8 m9 V,λV=>a7.rec (motive_1:=λv p y=>Rd h v p) (motive_2:=λvs ps y=>qK h vs ps) m1 m2 m3 m4 m5 m6 (λy y y e=>aQ e) (λy y e=>aQ e) m8 m9 V⟩
theorem RV.reads{h:aF}{α:Al}{p:PV}(V:RV h α v p):Rd h v p:=Lp.1 V
theorem a7.reads{h:aF}{α:Al}(V:a7 h α vs ps):qK h vs ps:=Lp.2 V
section
variable(ae:bw)(w:br)
def dB(c:Cx)(m:Me)(t:Sem au)(o:Option Bool):Prop:=∀r,o=some r→∀Q:au→aE→Prop,(∀tk:TK,Q (.bool r) (c.at ⟨m.h,tk,m.α⟩))→aY (ba ae w) c.A t Q c.E (c.at m)
end
section
variable{ae:bw}{w:br}{ag:aF}{K:Frag}{n:Nat}{aa:Env}{c:Cx}{m:Me}{σ:ah}{t:Sem au}{v u:au}{a b:PV}
theorem dB.no:dB ae w c m t none:=λz e=>aQ e
theorem dB.yes{r:Bool}(h:∀Q:au→aE→Prop,(∀tk:TK,Q (.bool r) (c.at ⟨m.h,tk,m.α⟩))→aY (ba ae w) c.A t Q c.E (c.at m)):dB ae w c m t (some r):=λy e Q q=>cj e λz=>h Q (z▸q)
theorem dB.pb{δ:Type}{o:Option δ}{f:δ→Option Bool}(h:∀x,o=some x→dB ae w c m t (f x)):dB ae w c m t (o.bind f):=λr e=>c4 e λx e1 e2=>h x e1 r e2
theorem fq.of(h:∀c m σ v u a b,Hy ae w ag n c m σ→Vm m v a→Vm m u b→dB ae w c m (uP op v u) (f σ a b)):fq ae w ag n op f:=
 λA s α σ L v u a b r E Q ho N hL hz T V U e q=>h ⟨A,s,L,E⟩ ⟨s.heap,(s.toks,s.drawn),α⟩ σ v u a b ⟨ho,N,hL,hz,T⟩ V U r e Q q
theorem zh{h:aF}{α:Al}{σ:ah}(T:RS ae w ag h α σ){v:au}{p:PV}(V:RV h α v p):∀d,(dp σ p).py=some d→d.canLay0=true∧∃as,Reads h v d as:=by
 have V0:=V;cases V with
 | @loc a b k ea=>
  unfold dp;dsimp only;cases e1:σ[k]? with
  |none=>exact λy e=>aQ e
  |some o=>
   cases o with
   |list l=>exact λd e=>gD (T.objs k _ _ _ ea e1).2 λvs n h1 h2=>iX e λds e2 z=>z▸qH (h2.reads ds e2) λas a b=>⟨a,_,reads_list_at h1 rfl rfl b⟩
   |_=>exact λy e=>aQ e
 |_=>exact V0.reads
theorem fc.AE{n:Nat}{A:bO}(h:fc n A):A.units+100<cLine:=by
 have:=h.2.2;exact cQ (b:=100) (ao (ao (bH (bR _ _) 201) this) (aK rfl))
theorem XW{A:bO}{x y:Nat}(h:A.units+100<cLine)(h2:min x y≤64):A.units+1+min x y<cLine:=by lia
theorem WI{A:bO}{x y:Nat}(h:A.units+100<cLine)(h2:y≤64):A.units+1+min x y<cLine:=by have:=J8 x y;lia
theorem dB.eqs(H:Hy ae w ag n c m σ)(V:Vm m v a)(U:Vm m u b){g:Bool→Bool}
 (k:∀x y as bs,Reads m.h v x as→Reads m.h u y bs→x.canLay0=true→y.canLay0=true→c.A.units+1+min x.depth y.depth<cLine→dB ae w c m t (some (g (lP x y)))):dB ae w c m t ((bA σ a b).map g):=by
 refine λr e=>iX e λb0 e0 e3=>c4 e0 λx e1 e=>c4 e λy e2 e=> ?_;by_cases hd:min x.depth y.depth≤64
 ·rw[aP hd]at e;exact qH (zh H.st V x e1) λas c1 r1=>qH (zh H.st U y e2) λbs c2 r2=>k x y as bs r1 r2 c1 c2 (XW H.room.AE hd) r (cj e λz=>z▸bV some e3)
 ·rw[aS hd]at e;exact aQ e
theorem abP:fq ae w ag n .Eq bA:= .of λc m σ v u a b H V U=>by
 have h:(bA σ a b).map id=bA σ a b:=by cases bA σ a b<;>rfl
 exact h▸dB.eqs H V U λx y as bs r1 r2 c1 c2 hu=>dB.yes λQ q=>SeqAt.compareEq_reads r1 r2 c1 c2 (yH (bH (rm _) _) hu) (q m.tk)
theorem abQ:fq ae w ag n .NotEq cA:= .of λc m σ v u a b H V U=>
 dB.eqs H V U λx y as bs r1 r2 c1 c2 hu=>dB.yes λQ q=>SeqAt.compareNe_reads r1 r2 c1 c2 (yH (bH (rm _) _) hu) (q m.tk)
theorem Lq{κ:Type} [DecidableEq κ] [BEq κ] [LawfulBEq κ]:∀{kvs:List (κ×au)} {l:List (κ×PV)} {k:κ},kvs.map (·.1)=l.map (·.1)→(qo kvs k).isSome=(l.lookup k).isSome
 | [],[],_,_=>rfl
 |(a,v)::kvs,(b,p)::l,k,e=>by
  simp only[jq,wx]at e;obtain⟨rfl,e⟩:=e;have ih:=Lq (k:=k) e;unfold qo at ih⊢;rw[wu,ke];by_cases q:a=k
  ·clear ih;subst q;simp
  ·simp only[q,decide_false,(kc.mpr λz=>q z.symm),ih]
 | [],_::_,_,e=>by simp at e
 |_::_,[],_,e=>by simp at e
theorem Lc:∀{kvs:List (Str×au)} {l:List (String×PV)} {k:String},kvs.map (·.1)=l.map (λp=>S p.1)→(qo kvs (S k)).isSome=(l.lookup k).isSome
 | [],[],_,_=>rfl
 |(a,v)::kvs,(b,p)::l,k,e=>by
  simp only[jq,wx]at e;obtain⟨rfl,e⟩:=e;have ih:=Lc (k:=k) e;unfold qo at ih⊢;rw[wu,ke];by_cases q:b=k
  ·clear ih;subst q;simp
  ·have q2:¬S b=S k:=λz=>q (jz z);simp only[q2,decide_false,(kc.mpr λz=>q z.symm),ih]
 | [],_::_,_,e=>by simp at e
 |_::_,[],_,e=>by simp at e
noncomputable def P9(neg:Bool):CmpOp:=if neg then .NotIn else .In
theorem N6{neg:Bool}{l:List PV}{d:lV}{xs:List lV}{tup:Bool}(H:Hy ae w ag n c m σ)(U:Vm m u b)(hb:dp σ b=if tup then .tup l else .lst l)(hd:d.canLay0=true∧∃as,Reads m.h v d as)(hl:jZ l=some xs)(Qa:d.depth≤64):
 dB ae w c m (uP (P9 neg) v u) (some (if neg then !(xs.any λy=>lP y d)else xs.any λy=>lP y d)):=by
 have RU:(dp σ b).py=some (if tup then .tuple xs else .list xs):=by
  rw[hb];cases tup
  ·exact bV (sD _) hl
  ·exact bV (sD _) hl
 refine qH hd λas c1 rx=>qH (zh H.st U _ RU) λbs c2 rc=>dB.yes λQ q=> ?_;have hs:=WI (x:=PyData.depthAll xs) H.room.AE Qa;clear H U hb hd hl RU Qa;cases tup with
 |true=>
  cases neg
  ·exact SeqAt.in_tuple_reads rc rx c2 c1 hs (q m.tk)
  ·exact SeqAt.notIn_tuple_reads rc rx c2 c1 hs (q m.tk)
 |false=>
  cases neg
  ·exact SeqAt.in_list_reads rc rx c2 c1 hs (q m.tk)
  ·exact SeqAt.notIn_list_reads rc rx c2 c1 hs (q m.tk)
theorem WJ{p:PV}(h:dp σ p= .loc k):p= .loc k:=by
 cases p with
 |loc j=>
  unfold dp at h;dsimp only at h;cases e:σ[j]? with
  |none=>rw[e]at h;exact h
  |some o=>
   rw[e]at h;cases o with
   |list l=>exact PV.noConfusion h
   |_=>exact h
 |_=>exact h
theorem Nb{neg:Bool}(H:Hy ae w ag n c m σ)(V:Vm m v a)(U:Vm m u b):dB ae w c m (uP (P9 neg) v u) ((di σ a b).bind λr=>some (if neg then !r else r)):=by
 unfold di;cases hb:dp σ b with
 |tup l=>
  rw[CG];refine dB.pb λd e1=> ?_;rw[CG];refine dB.pb λxs e2=> ?_;by_cases hd:d.depth≤64
  ·rw[aP hd];exact N6 (tup:=true) H U hb (V.reads d e1) e2 hd
  ·rw[aS hd];exact dB.no
 |lst l=>
  rw[CG];refine dB.pb λd e1=> ?_;rw[CG];refine dB.pb λxs e2=> ?_;by_cases hd:d.depth≤64
  ·rw[aP hd];exact N6 (tup:=false) H U hb (zh H.st V d e1) e2 hd
  ·rw[aS hd];exact dB.no
 |loc k=>
  dsimp only;have hk:=WJ hb;clear hb;subst hk;cases hl:σ[k]? with
  |none=>exact dB.no
  |some o=>
   refine RV.eO U λa' b' ea=> ?_;have ro:=H.st.objs _ _ _ _ ea hl;cases o with
   |aU l=>cases a with
    |int i=>
     refine RV.eI V λt=>dB.yes λQ q=>ro.2.elim λkvs h=> ?_;rw[←Lq (k:=i) h.2.1]at q;cases neg
     ·exact wpAny_in_of (uM ae w i t) ro.1.2 h.1.mapOf (q (_,_))
     ·exact wpAny_notIn_of (uM ae w i t) ro.1.2 h.1.mapOf (q (_,_))
    |_=>exact dB.no
   |cZ l=>cases a with
    |str x=>
     refine RV.eS V λt z=>dB.yes λQ q=>ro.2.elim λkvs h=> ?_;rw[←Lc (k:=x) h.2.1]at q;cases neg
     ·exact wpAny_in_of (zz ae w (S x) t) ro.1.2 h.1.mapOf (q (_,_))
     ·exact wpAny_notIn_of (zz ae w (S x) t) ro.1.2 h.1.mapOf (q (_,_))
    |_=>exact dB.no
   |_=>exact dB.no
 |_=>exact dB.no
theorem abR:fq ae w ag n .In di:= .of λc m σ v u a b H V U=>by
 have h:((di σ a b).bind λr=>some (if false then !r else r))=di σ a b:=by cases di σ a b<;>rfl
 exact h▸Nb (neg:=false) H V U
theorem WK:fq ae w ag n .NotIn ej:= .of λc m σ v u a b H V U=>by
 have h:((di σ a b).bind λr=>some (if true then !r else r))=ej σ a b:=by unfold ej;cases di σ a b<;>rfl
 exact h▸Nb (neg:=true) H V U
theorem dB.ints{f:Int→Int→Bool}{t:au→au→Sem au}(V:Vm m v a)(U:Vm m u b)(k:∀i j ti tj,dB ae w c m (t (.int i ti) (.int j tj)) (some (f i j))):dB ae w c m (t v u) (xI f a b):=by
 cases a with
 |int i=>cases b with
  |int j=>exact RV.eI V λz=>RV.eI U λz=>k _ _ _ _
  |_=>exact dB.no
 |_=>exact dB.no
theorem abS:fq ae w ag n .Lt hU:= .of λc m σ v u a b H V U=>dB.ints V U λi j ti tj=>dB.yes λQ q=>P.lt_int (q m.tk)
theorem abT:fq ae w ag n .LtE kR:= .of λc m σ v u a b H V U=>dB.ints V U λi j ti tj=>dB.yes λQ q=>P.le_int (q m.tk)
theorem cmp_gt:fq ae w ag n .Gt kB:= .of λc m σ v u a b H V U=>dB.ints V U λi j ti tj=>dB.yes λQ q=>P.gt_int (q m.tk)
theorem abU:fq ae w ag n .GtE t8:= .of λc m σ v u a b H V U=>dB.ints V U λi j ti tj=>dB.yes λQ q=>P.ge_int (q m.tk)
theorem abV:fq ae w ag n .Is Ab:= .of λc m σ v u a b H V U=>by
 cases b with
 |none=>
  refine RV.eN U ?_;cases V<;>exact dB.yes λQ q=>is_none (q m.tk)
 |_=>exact dB.no
end
variable{t:Sem au}{items:Array au}{u:au}{value:a6}
section
variable{ae:bw}{w:br}{ag:aF}{K:Frag}{n:Nat}{aa:Env}{c:Cx}{m:Me}{σ:ah}{F:au}{g:List PV→ah→Option (PV×ah)}
theorem pC{L:aI}(hz:ag.objs.size≤L):ag.get? L=none:=by
 cases e:ag.get? L with
 |none=>rfl
 |some o=>exact bP (dy e) (eP.mpr hz)
theorem Hy.frame(H:Hy ae w ag n c m σ):∃mm,m.h.Ns c.L mm∧Fr ag c.L m.h mm:=bG H.ns λmm hm=>⟨mm,hm,hm,H.st.base,H.size⟩
theorem bk.grow{r:PV}(H:Hy ae w ag n c m σ)(h:∀Q:au→aE→Prop,(∀v h' (tk:TK),(∀a o,m.h.get? a=some o→h'.get? a=some o)→RV h' m.α v r→Q v (c.at ⟨h',tk,m.α⟩))→aY (ba ae w) c.A t Q c.E (c.at m)):bk ae w ag c m t (some (r,σ)) Vm:=
 λz z e z q=>cw e λe1 e2=>h _ λv h' tk k V=>q ⟨h',tk,m.α⟩ v ((Kp.of k).ext m.α) (e2▸H.st.mono k) (e1▸V)
theorem bk.same{r:PV}(H:Hy ae w ag n c m σ)(h:∀Q:au→aE→Prop,(∀v (tk:TK),Vm m v r→Q v (c.at ⟨m.h,tk,m.α⟩))→aY (ba ae w) c.A t Q c.E (c.at m)):bk ae w ag c m t (some (r,σ)) Vm:=
 bk.grow H λz q=>h _ λv tk V=>q v m.h tk (λz z e=>e) V
theorem bk.made{r:PV}{mm:Str→Option au}(H:Hy ae w ag n c m σ)(Fm:Fr ag c.L m.h mm)(k:∀h',(∀v p,RV m.h m.α v p→RV h' m.α v p)→h'.get? m.h.objs.size=some o→m.h.objs.size∉own m.α→RV h' m.α (.ref m.h.objs.size) r)
 (h:∀Q:au→aE→Prop,(∀h' (tk:TK),Fr ag c.L h' mm→News ag c.L h' ((m.h.objs.size,o)::og ag m.h c.L)→Q (.ref m.h.objs.size) (c.at ⟨h',tk,m.α⟩))→aY (ba ae w) c.A t Q c.E (c.at m)):bk ae w ag c m t (some (r,σ)) Vm:=
 λz z e z q=>cw e λe1 e2=>h _ λh' tk F' N'=>
  have KK:=sy H.st.base Fm F' N' λz hp=> .tail _ hp
  q ⟨h',tk,m.α⟩ _ (KK.ext m.α) (e2▸H.st.kp KK H.low H.ns (pC H.size)) (e1▸k h' (λz z V=>V.ext (KK.ext m.α) H.ns) (N'.get (.head _)) (kf H.st))
noncomputable def vv:PV→Option (Bool×List PV)
 | .tup l=>some (true,l)
 | .lst l=>some (false,l)
 |_=>none
def IsQ(h:aF)(a:aI)(b:Bool)(vs:Array au)(n:Nat):Prop:=match b with
 |true=>IsT h a vs n
 |false=>IsL h a vs n
theorem IsT.isTup{h:aF}{t:aI}{n:Nat}(x:IsT h t items n):IsTup h t items:=⟨_,x,rfl,n,rfl⟩
theorem rq{h:aF}{t:aI}{n:Nat}(x:IsL h t items n):h.IsList t items:=⟨_,x,rfl,n,rfl⟩
theorem a7.size{h:aF}{α:Al}{vs:Array au}{l:List PV}(r:a7 h α vs.toList l):vs.size=l.length:=(gw (xs:=vs))▸r.length
theorem a7.imp{h:aF}{α:Al}(k:∀v p,RV h α v p→RV h' aD v p):∀{vs:List au},a7 h α vs ps→a7 h' aD vs ps:=by
 induction ps with
 |nil=>exact λV=>a7.eN V .nil
 |cons p ps ih=>exact λV=>a7.eC V λv vs a b=> .cons (k v p a) (ih b)
theorem zR{C:PV→Prop}{p:PV}(T:RS ae w ag m.h m.α σ)(V:Vm m v p)(h1:∀l a vs n,v= .ref a→IsT m.h a vs n→p= .tup l→a7 m.h m.α vs.toList l→C (.tup l))(h2:∀l a vs n,v= .ref a→IsL m.h a vs n→a7 m.h m.α vs.toList l→C (.lst l))
 (h3:∀k o,p= .loc k→σ[k]? =some o→C (.loc k)) (h4:∀q,vv q=none→(∀k o,q= .loc k→σ[k]? ≠some o)→C q):C (dp σ p):=by
 cases V with
 |tup ht _ r=>exact h1 _ _ _ _ rfl ht rfl r
 |lst ht _ r=>exact h2 _ _ _ _ rfl ht r
 | @loc a b k ea=>
  unfold dp;dsimp only;cases e:σ[k]? with
  |none=>exact h4 _ rfl λk' o z=>PV.loc.inj z▸(by rw[e];exact λz=>aQ z)
  |some o=>
   cases o with
   |list l=>exact gD (T.objs _ _ _ _ ea e).2 λvs n ht r=>h2 _ _ _ _ rfl ht r
   |_=>exact h3 _ _ rfl e
 |_=>exact h4 _ rfl λy y z=>PV.noConfusion z
theorem bk.seq{R:Me→β→γ→Prop}{p:PV}{f:Bool×List PV→Option (γ×ah)}{F:au→Sem β}(H:Hy ae w ag n c m σ)(V:Vm m v p)(h:∀b l a vs n,(b=true→p= .tup l)→IsQ m.h a b vs n→vs.size=l.length→a7 m.h m.α vs.toList l→Vm m (.ref a) p→bk ae w ag c m (F (.ref a)) (f (b,l)) R):
 bk ae w ag c m (F v) ((vv (dp σ p)).bind f) R:=
 zR (C:=λq=>bk ae w ag c m (F v) ((vv q).bind f) R) H.st V (λl a vs n z ht e r=>z▸h true l a vs n (λy=>e) ht r.size r (z▸V)) (λl a vs n z ht r=>z▸h false l a vs n (λz=>cL z) ht r.size r (z▸V)) (λy y y y=>bk.no) λq z y=>by rw[z];exact bk.no
def nk(ae:bw)(w:br)(c:Cx)(m:Me)(t:Sem au)(o:Option PV):Prop:=∀p,o=some p→∀Q:au→aE→Prop,(∀v (tk:TK),Vm m v p→Q v (c.at ⟨m.h,tk,m.α⟩))→aY (ba ae w) c.A t Q c.E (c.at m)
theorem nk.no:nk ae w c m t none:=λz e=>aQ e
theorem nk.aeA{o:Option PV}(H:Hy ae w ag n c m σ)(h:nk ae w c m t o):bk ae w ag c m t (o.bind λp=>some (p,σ)) Vm:=bk.pb λp e=>bk.same H λQ q=>h p e Q q
noncomputable def sZ(l:List PV)(k:Int):Option PV:=if-9223372036854775808≤k∧k<9223372036854775808 then(sF k l.length).bind λj=>l[j]? else none
def xJ(l:List PV):PV→Option PV
 | .int k=>sZ l k
 |_=>none
noncomputable def Qb:PO→PV→Option PV
 | .aU l,.int k=>l.lookup k
 | .cZ l,.str x=>l.lookup x
 |_,_=>none
def fZ(σ:ah)(o i:PV):Option PV:=match dp σ o with
 | .tup l=>xJ l i
 | .lst l=>xJ l i
 | .loc d=>(σ[d]?).bind λo=>Qb o i
 |_=>none
def aG(o i:CE):CE:=λρ σ=>(o ρ σ).bind λr=>(i ρ r.2).bind λq=>(fZ q.2 r.1 q.1).bind λv=>some (v,q.2)
theorem KN{κ:Type} [DecidableEq κ]{a:κ×au}{l:List (κ×au)}{k:κ}:qo (a::l) k=if a.1=k then some a.2 else qo l k:=by
 unfold qo;rw[wu];by_cases h:a.1=k
 ·rw[aP h,bN h];rfl
 ·rw[aS h,bT h]
theorem Nc{κ mj:Type} [DecidableEq κ] [BEq mj] [LawfulBEq mj]{f:mj→κ}(hf:∀a b,f a=f b→a=b){h:aF}{α:Al}{k:mj}{p:PV}{l:List (mj×PV)}:∀{kvs:List (κ×au)},kvs.map (·.1)=l.map (λp=>f p.1)→a7 h α (kvs.map (·.2)) (l.map (·.2))→l.lookup k=some p→∃v,qo kvs (f k)=some v∧RV h α v p:=by
 induction l with
 |nil=>exact λ{_} _ _ e=>aQ e
 |cons q l ih=>
  intro kvs e V el;cases kvs with
  |nil=>exact rN e
  |cons a kvs=>
   rw[KN];refine a7.iC V λv vs z Va Vs=> ?_;refine cM (nS e) λe1 e2=> ?_;refine cM (nS z) λz1 z2=> ?_;rw[ke]at el;by_cases hk:k=q.1
   ·rw[eF.mpr hk]at el;rw[aP (e1.trans (bV f hk.symm))];exact⟨_,rfl,cj el λz=>z▸(show v=a.2 from z1.symm)▸Va⟩
   ·rw[kc.mpr hk]at el;rw[aS λz=>hk (hf _ _ (z.symm.trans e1))];exact ih e2 (z2▸Vs) el
theorem VA{k:Int}{n:Nat}(e:sF k n=some j):(0≤k→k.toNat=j)∧(k<0→0≤k+n∧(k+n).toNat=j):=by
 unfold sF at e;have key:∀{i:Int},(if(decide (0≤i)&&decide (i<n))=true then some i.toNat else none)=some j→0≤i∧i.toNat=j:=λe=>gF e λhc e=>⟨fQ (h8.mp hc).1,c8 e⟩;by_cases hk:k<0
 ·rw[aP hk]at e;exact⟨λh=>bP hk (lQ.mpr h),λz=>key e⟩
 ·rw[aS hk]at e;exact⟨λz=>(key e).2,λh=>bP h hk⟩
theorem Nd{i:PV}{l:List PV}{G:Prop}(U:Vm m u i){p:PV}(e:xJ l i=some p){vs:Array au}(r:a7 m.h m.α vs.toList l)(k:∀(x:Int) t (j:Nat) z,u= .int x t→ -9223372036854775808≤x→x<9223372036854775808→sF x vs.size=some j→vs[j]? =some z→RV m.h m.α z p→G):G:=by
 cases i with
 |int x=>
  refine RV.iI U λt hu=> ?_;exact gF (o:=(sF x l.length).bind λj=>l[j]?) e λhx e=>c4 e λj e1 e2=>aT (r.get e2) λz h1 h2=>k x t j z hu hx.1 hx.2 (r.size▸e1) (gI.symm.trans h1) h2
 |_=>exact aQ e
theorem XY{slice:a6}(pl:∀o i,subscripted slice false o i=operate [o,i] (vd o i)){o i:PV}(T:RS ae w ag m.h m.α σ)(V:Vm m v o)(U:Vm m u i):nk ae w c m (subscriptTail value slice v u) (fZ σ o i):=by
 refine zR (C:=λq=>nk ae w c m (subscriptTail value slice v u) (match q with| .tup l=>xJ l i| .lst l=>xJ l i| .loc d=>(σ[d]?).bind λo=>Qb o i|_=>none)) T V
  (λl a vs k z ht s r=>λp e Q q=> ?_) (λl a vs k z ht r=>λp e Q q=> ?_) (λd o z e=> ?_) λq z z2=> ?_
 ·exact z▸Nd U e r λx t j y hu h1 h2 e1 e2 hy=>hu▸uZ (IsT.isTup ht).typeIs slot_tuple_getitem.lookup (P.getItem_tuple ht h1 h2 e1 e2 (q y (_,_) hy)) (pl _ _)
 ·refine z▸Nd U e r λx t j y hu h1 h2 e1 e2 hy=>hu▸ ?_;have hL:=rq ht;have I:=VA e1;by_cases hn:x<0
  ·exact uZ hL.typeIs slot_list_getitem.lookup (wpAny_getItem_list_neg hL hn (by have:=(I.2 hn).1;omega) h1 (x:=y) ((I.2 hn).2▸e2) (q y (_,_) hy)) (pl _ _)
  ·exact uZ hL.typeIs slot_list_getitem.lookup (wpAny_getItem_list hL (lQ.mp hn) h2 (x:=y) (I.1 (lQ.mp hn)▸e2) (q y (_,_) hy)) (pl _ _)
 ·subst z;refine RV.eO V λa b ea=> ?_;have ro:=T.objs d _ _ _ ea e;dsimp only;rw[e];cases o with
  |aU l=>cases i with
   |int k=>exact λp e Q q=>RV.eI U λt=>ro.2.elim λkvs h=>aT (Nc (f:=id) (λs s z=>z) h.2.1 h.2.2 e) λz e1 e2=>uZ h.1.typeIs slot_dict_getitem.lookup (wpAny_getItem_of (uM ae w k t) h.1.mapOf e1 (q z (_,_) e2)) (pl _ _)
   |_=>exact nk.no
  |cZ l=>cases i with
   |str k=>exact λp e Q q=>RV.eS U λt s=>ro.2.elim λkvs h=>aT (Nc (f:=S) (λs s z=>jz z) h.2.1 h.2.2 e) λz e1 e2=>uZ h.1.typeIs slot_dict_getitem.lookup (wpAny_getItem_of (zz ae w (S k) t) h.1.mapOf e1 (q z (_,_) e2)) (pl _ _)
   |_=>exact nk.no
  |_=>exact nk.no
 ·cases q with
  |tup=>exact dA z
  |lst=>exact dA z
  |loc d=>
   dsimp only;cases e:σ[d]? with
   |none=>exact nk.no
   |some o=>exact bP e (z2 d o rfl)
  |_=>exact nk.no
theorem abW{slice:a6}{pos:Pos}{o i:CE}(hs:∀o i,subscripted slice false o i=operate [o,i] (vd o i))(ho:SE ae w ag n aa (eval value aa) o)(hi:SE ae w ag n aa (eval slice aa) i):SE ae w ag n aa (eval (.Subscript value slice pos) aa) (aG o i):= .of λc m ρ σ K=>
 λr aq e Q q=>cy e λx rO e1 e=>cy e λy RN e2 e=>Subscript_ (ho.sp K x rO e1 _ λm1 v l T V=>hi.sp (K.to l T) y RN e2 _ λm2 u l2 T2 U=>
  nk.aeA ((K.to l T).to l2 T2).hy (XY hs T2 ((K.to l T).up l2 V) U) _ _ e _ λm3 z l3 T3 Z=>q m3 z ((l.trans l2).trans l3) T3 Z)
theorem oj.of{op:Operator}{f:lF}(h:∀c m σ v u a b,Hy ae w ag n c m σ→Vm m v a→Vm m u b→bk ae w ag c m (binaryOp op v u) (f σ a b) Vm):oj ae w ag n op f:=
 λA s α σ L v u a b r aq E Q ho N hL hz T V U e q=>h ⟨A,s,L,E⟩ ⟨s.heap,(s.toks,s.drawn),α⟩ σ v u a b ⟨ho,N,hL,hz,T⟩ V U r aq e Q λm' v l T V=>q v m'.h m'.tk m'.α l T V
noncomputable def Bc(f:Int→Int→ah→Option (PV×ah)):lF:=λσ a b=>match a with
 | .int i=>match b with
  | .int j=>f i j σ
  |_=>none
 |_=>none
theorem bk.ints{f:Int→Int→ah→Option (PV×ah)}{t:au→au→Sem au}{a b:PV}(V:Vm m v a)(U:Vm m u b)(k:∀i j ti tj,bk ae w ag c m (t (.int i ti) (.int j tj)) (f i j σ) Vm):bk ae w ag c m (t v u) (Bc f σ a b) Vm:=by
 cases a with
 |int i=>cases b with
  |int j=>exact RV.eI V λz=>RV.eI U λz=>k _ _ _ _
  |_=>exact bk.no
 |_=>exact bk.no
noncomputable def qu(σ:ah)(p:PV):Option (List PV):=match dp σ p with
 | .lst l=>some l
 |_=>none
noncomputable def dj:lF:=λσ a b=>match a with
 | .int i=>match b with
  | .int j=>some (.int (i+j),σ)
  |_=>none
 | .tup l=>match b with
  | .tup r=>if l.length+r.length≤10000 then some (.tup (l++r),σ)else none
  |_=>none
 |_=>(qu σ a).bind λl=>(qu σ b).bind λr=>if l.length+r.length≤10000 then some (.lst (l++r),σ)else none
noncomputable def iM:lF:=Bc λi j σ=>some (.int (i-j),σ)
noncomputable def l7:lF:=Bc λi j σ=>if(-1000000000<i∧i<1000000000)then some (.int (i*j),σ)else none
noncomputable def rG:lF:=Bc λi j σ=>if j=0 then none else some (.int (i.fmod j),σ)
theorem aac:oj ae w ag n .Sub iM:= .of λc m σ v u a b H V U=>bk.ints V U λi j ti tj=>bk.same H λQ q=>P.sub_int (q _ (_,_) (.int _ _))
theorem aad:oj ae w ag n .Mult l7:= .of λc m σ v u a b H V U=>bk.ints V U λi j ti tj=>bk.if1 λhb=>bk.same H λQ q=>P.mul_int (q _ (_,_) (.int _ _)) (IntMulOk.of_left (intBits_le_64 (oX (by decide) hb.1) (oX hb.2 (by decide))))
theorem aae:oj ae w ag n .Mod rG:= .of λc m σ v u a b H V U=>bk.ints V U λi j ti tj=>bk.ite (λy=>bk.no) λhb=>bk.same H λQ q=>PyProof.Rows.mod_int_or H.room.1 (λz=>bP z hb) λy=>q _ (_,_) (.int _ _)
theorem Mp{p:PV}{l:List PV}(T:RS ae w ag m.h m.α σ)(V:Vm m v p)(e:qu σ p=some l):∃a vs n,v= .ref a∧IsL m.h a vs n∧a7 m.h m.α vs.toList l:=
 zR (C:=λq=>(match q with| .lst l=>some l|_=>none)=some l→∃a vs n,v= .ref a∧IsL m.h a vs n∧a7 m.h m.α vs.toList l) T V (λy y y y y y y y e=>aQ e) (λl a vs n z ht r e=>cj e λz2=>z2▸⟨a,vs,n,z,ht,r⟩) (λy y y y e=>aQ e)
  (λq z y e=>by
   cases q with
   |lst=>exact dA z
   |_=>exact aQ e) e
theorem XZ{l r:List PV}(H:Hy ae w ag n c m σ)(V:Vm m v (.tup l))(U:Vm m u (.tup r))(hz:l.length+r.length≤10000):bk ae w ag c m (binaryOp .Add v u) (some (.tup (l++r),σ)) Vm:=
 RV.eT V λa1 lG k1 h1 n1 r1=>RV.eT U λa2 lH k2 h2 n2 r2=>aT H.frame λmm hm Fm=>λz z e Q q=>cw e λe1 e2=>
  add_tuples (vs:=lG.toList) (ws:=lH.toList) Fm qh (IsT.isTup h1) (IsT.isTup h2)
   (λhv=>q m _ (cp.refl ..) (e2▸H.st) (e1▸ .tup h2 n2 (by rw[Jv.mp (r1.length.symm.trans (by rw[hv];rfl))];exact r2)))
   (λhv hw=>q m _ (cp.refl ..) (e2▸H.st) (e1▸ .tup h1 n1 (by rw[Jv.mp (r2.length.symm.trans (by rw[hw];rfl)),gy];exact r1)))
   (λhv hw h' F' N'=>have KK:=sy H.st.base Fm F' N' λz hp=> .tail _ hp
    q ⟨h',m.tk,m.α⟩ _ (KK.ext m.α) (e2▸H.st.kp KK H.low H.ns (pC H.size)) (e1▸ .tup (n:=0) (N'.get (.head _)) (kf H.st) ((r1.append r2).ext (KK.ext m.α) H.ns)))
   (by rw[r1.length,r2.length];exact ao hz (by decide))
theorem aaf:oj ae w ag n .Add dj:= .of λc m σ v u a b H V U=>by
 have lst:bk ae w ag c m (binaryOp .Add v u) ((qu σ a).bind λl=>(qu σ b).bind λr=>if l.length+r.length≤10000 then some (.lst (l++r),σ)else none) Vm:=
  bk.pb λl e1=>bk.pb λr e2=>bk.if1 λhz=>oy (Mp H.st V e1) λa1 lG k1 z1 h1 r1=>oy (Mp H.st U e2) λa2 lH k2 z2 h2 r2=>z1▸z2▸aT H.frame λmm hm Fm=>
   bk.made H Fm (λh' mv g no=> .lst (n:=0) g no ((r1.append r2).imp mv)) λQ q=>add_lists (vs:=lG.toList) (ws:=lH.toList) Fm qh (rq h1) (rq h2) (λh' F' N'=>q h' m.tk F' N') (by rw[r1.length,r2.length];exact ao hz (by decide))
 cases a with
 |int i=>cases b with
  |int j=>exact RV.eI V λz=>RV.eI U λz=>bk.same H λQ q=>P.add_int (q _ (_,_) (.int _ _))
  |_=>exact bk.no
 |tup l=>cases b with
  |tup r=>exact bk.if1 λhz=>XZ H V U hz
  |_=>exact bk.no
 |_=>exact lst
theorem aag{s:aE}{α:Al}{σ:ah}{L:aI}{m:Str→Option au}(T:RS ae w ag s.heap α σ)(F:Fr ag L s.heap m)(hL:L∉own α)(F':Fr ag L h' m)(N':News ag L h' ((s.heap.objs.size,o)::og ag s.heap L)):
 cp L s.heap h' α α∧RS ae w ag h' α σ∧h'.get? s.heap.objs.size=some o∧s.heap.objs.size∉own α:=
 have K:=sy T.base F F' N' λp hp=> .tail _ hp
 ⟨K.ext α,T.kp K hL ⟨m,F.ns⟩ (pC F.above),N'.get (.head _),kf T⟩
theorem WL{p:PV}(T:RS ae w ag m.h m.α σ)(V:Vm m v p):(∀l,dp σ p= .tup l→∃a vs n,v= .ref a∧IsT m.h a vs n∧a7 m.h m.α vs.toList l)∧(∀l,dp σ p= .lst l→∃a vs n,v= .ref a∧IsL m.h a vs n∧a7 m.h m.α vs.toList l):=
 zR (C:=λq=>(∀l,q= .tup l→∃a vs n,v= .ref a∧IsT m.h a vs n∧a7 m.h m.α vs.toList l)∧(∀l,q= .lst l→∃a vs n,v= .ref a∧IsL m.h a vs n∧a7 m.h m.α vs.toList l)) T V
  (λl a vs n z ht y r=>⟨λy e=>PV.tup.inj e▸⟨a,vs,n,z,ht,r⟩,λy e=>PV.noConfusion e⟩) (λl a vs n z ht r=>⟨λy e=>PV.noConfusion e,λy e=>PV.lst.inj e▸⟨a,vs,n,z,ht,r⟩⟩) (λy y y y=>⟨λy e=>PV.noConfusion e,λy e=>PV.noConfusion e⟩)
  λq z y=>⟨λy e=>dA (e▸z),λy e=>dA (e▸z)⟩
end
variable{q:PV}{p2:Pos}
section
variable{ae:bw}{w:br}{ag:aF}{K:Frag}{n:Nat}{aa:Env}{c:Cx}{m:Me}{σ:ah}{F:au}{g:List PV→ah→Option (PV×ah)}
theorem aah{s:aE}{α:Al}{σ:ah}{L:aI}{p:PV}(T:RS ae w ag s.heap α σ)(k:∀a o,s.heap.get? a=some o→h'.get? a=some o)(q:KE ae w ag L s α σ p Q)(V:RV h' α v p)(tk:TK):Q v {s with heap:=h',toks:=tk.1,drawn:=tk.2}:=
 q v h' tk α ((Kp.of k).ext α) (T.mono k) V
theorem eh.of(h:∀c m σ vs args,Hy ae w ag n c m σ→Vms m vs args→bk ae w ag c m (call F vs) (g args σ) Vm):eh ae w ag n F g:=
 λA s α σ L vs args pv aq E Q ho N hL hz T V e q=>h ⟨A,s,L,E⟩ ⟨s.heap,(s.toks,s.drawn),α⟩ σ vs args ⟨ho,N,hL,hz,T⟩ V pv aq e Q λm' v l T V=>q v m'.h m'.tk m'.α l T V
noncomputable def pW(f:PV→ah→Option (PV×ah)):List PV→ah→Option (PV×ah)
 | [p],σ=>f p σ
 |_,_=>none
noncomputable def Bd(f:PV→ah→Option (PV×ah))(f2:PV→PV→ah→Option (PV×ah)):List PV→ah→Option (PV×ah)
 | [p],σ=>f p σ
 | [p,q],σ=>f2 p q σ
 |_,_=>none
theorem eh.He{f:PV→ah→Option (PV×ah)}{f2:PV→PV→ah→Option (PV×ah)}(h:∀c m σ v p,Hy ae w ag n c m σ→Vm m v p→bk ae w ag c m (call F [v]) (f p σ) Vm)
 (h2:∀c m σ v u p q,Hy ae w ag n c m σ→Vm m v p→Vm m u q→bk ae w ag c m (call F [v,u]) (f2 p q σ) Vm):eh ae w ag n F (Bd f f2):= .of λc m σ vs args H V=>by
 cases V with
 |nil=>exact bk.no
 |cons V Vs=>
  cases Vs with
  |nil=>exact h _ _ _ _ _ H V
  |cons U Us=>
   cases Us with
   |nil=>exact h2 _ _ _ _ _ _ _ H V U
   |cons _ _=>exact bk.no
theorem eh.vQ{f:PV→ah→Option (PV×ah)}(h:∀c m σ v p,Hy ae w ag n c m σ→Vm m v p→bk ae w ag c m (call F [v]) (f p σ) Vm):eh ae w ag n F (pW f):= .of λc m σ vs args H V=>by
 cases V with
 |nil=>exact bk.no
 |cons V Vs=>
  cases Vs with
  |nil=>exact h _ _ _ _ _ H V
  |cons _ _=>exact bk.no
def cq:List PV→ah→Option (PV×ah):=pW λp σ=>(vv (dp σ p)).bind λq=>if q.2.length<1000000000 then some (.int q.2.length,σ)else none
theorem abX:eh ae w ag n (.builtin "len") cq:= .vQ λc m σ v p H V=>
 bk.seq (F:=λv=>call (.builtin "len") [v]) H V λb l a vs k z ht hl z z=>bk.if1 λhb=>by
  rw[←hl]at hb⊢;cases b with
  |true=>exact bk.same H λQ q=>P.len_tuple ht (Int.not_le.mpr (oX (gg.mpr hb) (by decide))) (q _ (_,_) (.int _ _))
  |false=>exact bk.same H λQ q=>call_len_list (rq ht) (oX (gg.mpr hb) (by decide)) (q _ (_,_) (.int _ _))
def aeB(p:PV)(σ:ah):Option (PV×ah):=match p with
 | .int i=>some (.int (if i<0 then-i else i),σ)
 |_=>none
noncomputable def Hf:List PV→ah→Option (PV×ah):=pW aeB
theorem abY:eh ae w ag n (.builtin "abs") Hf:= .vQ λc m σ v p H V=>by
 cases p with
 |int i=>exact RV.eI V λt=>bk.same H λQ q=>call_abs_int λu tk=>q _ (tk,_) (.int _ _)
 |_=>exact bk.no
noncomputable def AF:List PV→Option (Int×Int)
 | [.int a,.int b]=>some (a,b)
 |_=>none
def Hg(f:Int→Int→Int)(p:PV)(σ:ah):Option (PV×ah):=match p with
 | .lst l=>(AF l).bind λq=>some (.int (f q.1 q.2),σ)
 |_=>none
noncomputable def EU(f:Int→Int→Int)(p q:PV)(σ:ah):Option (PV×ah):=match p with
 | .int a=>match q with
  | .int b=>some (.int (f a b),σ)
  |_=>none
 |_=>none
def tB:List PV→ah→Option (PV×ah):=Bd (Hg max) (EU max)
def vw:List PV→ah→Option (PV×ah):=Bd (Hg min) (EU min)
theorem X0{h:aF}{α:Al}{l:List PV}{q:Int×Int}(V:a7 h α vs l)(e:AF l=some q):IntsAre vs [q.1,q.2]:=by
 cases V with
 |nil=>exact aQ e
 | @cons _ p _ _ V Vs=>
  cases p with
  |int i=>cases Vs with
   |nil=>exact aQ e
   | @cons _ p _ _ U Us=>cases p with
    |int j=>cases Us with
     |nil=>exact cj e λz=>z▸RV.eI V λy=>RV.eI U λy=> .cons _ _ (.cons _ _ .nil)
     |cons _ _=>exact aQ e
    |_=>exact aQ e
  |_=>exact aQ e
theorem abZ{x y M:Int}(h:M∈ [x,y])(h2:∀z∈ [x,y],z≤M):M=max x y:=by
 have:=h2 x (.head _);have:=h2 y (.tail _ (.head _));rcases cG.mp h with h|h
 ·lia
 ·have:=fz.mp h;lia
theorem ab0{x y M:Int}(h:M∈ [x,y])(h2:∀z∈ [x,y],M≤z):M=min x y:=by
 have:=h2 x (.head _);have:=h2 y (.tail _ (.head _));rcases cG.mp h with h|h
 ·lia
 ·have:=fz.mp h;lia
theorem bk.pair{f:Int→Int→Int}{p:PV}(H:Hy ae w ag n c m σ)(V:Vm m v p)
 (h:∀(vs:List au) (x y:Int) (a:aI) (mm:Str→Option au),m.h.IsList a vs.toArray→IntsAre vs [x,y]→Fr ag c.L m.h mm→∀Q:au→aE→Prop,(∀h' t tk,Fr ag c.L h' mm→News ag c.L h' (og ag m.h c.L)→Q (.int (f x y) t) (c.at ⟨h',(tk,m.tk.2),m.α⟩))→aY (ba ae w) c.A (call F [.ref a]) Q c.E (c.at m)):
 bk ae w ag c m (call F [v]) (Hg f p σ) Vm:=by
 cases p with
 |lst l=>
  refine RV.eL V λa vs k ht hn r=> ?_;show bk ae w ag c m _ ((AF l).bind _) Vm;cases e:AF l with
  |none=>exact bk.no
  |some q=>
   exact aT H.frame λmm hm Fm z z e2 Q q'=>cw e2 λe1 e2=>h vs.toList q.1 q.2 a mm (by simpa using rq ht) (X0 r e) Fm _ λh' t tk F' N'=>
    have KK:=sy H.st.base Fm F' N' (λp hp=>hp)
    q' ⟨h',(tk,_),m.α⟩ _ (KK.ext m.α) (e2▸H.st.kp KK H.low H.ns (pC H.size)) (e1▸ .int _ _)
 |_=>exact bk.no
theorem bk.two{f:Int→Int→Int}{p:PV}(V:Vm m v p)(U:Vm m u q)(h:∀(x y:Int) t t',bk ae w ag c m (call F [.int x t,.int y t']) (some (.int (f x y),σ)) Vm):bk ae w ag c m (call F [v,u]) (EU f p q σ) Vm:=by
 cases p with
 |int i=>cases q with
  |int j=>exact RV.eI V λz=>RV.eI U λz=>h _ _ _ _
  |_=>exact bk.no
 |_=>exact bk.no
theorem aca:eh ae w ag n (.builtin "max") tB:= .He (λc m σ v p H V=>bk.pair H V λvs x y a mm hl hi Fm Q q=>max_list_N H.room.1 Fm qh hl hi (Dh _) λh' M t tk F' N' h1 h2=>abZ h1 h2▸q h' t tk F' N')
 λc m σ v u p q H V U=>bk.two V U λi j t t'=>bk.grow H λQ q=>max_two_ints H.room.1 λh' tk k=>q _ h' (tk,_) k (by
  by_cases c:j>i
  ·rw[aP c,show max i j=j by exact wo (dS c)];exact .int _ _
  ·rw[aS c,show max i j=i by lia];exact .int _ _)
theorem acb:eh ae w ag n (.builtin "min") vw:= .He (λc m σ v p H V=>bk.pair H V λvs x y a mm hl hi Fm Q q=>min_list_N H.room.1 Fm qh hl hi (Dh _) λh' M t tk F' N' h1 h2=>ab0 h1 h2▸q h' t tk F' N')
 λc m σ v u p q H V U=>bk.two V U λi j t t'=>bk.grow H λQ q=>min_two_ints H.room.1 λh' tk k=>q _ h' (tk,_) k (by
  by_cases c:j<i
  ·rw[aP c,show min i j=j by exact J9 (dS c)];exact .int _ _
  ·rw[aS c,show min i j=i by exact Int.min_eq_left (lQ.mp c)];exact .int _ _)
noncomputable def aeC(p:PV)(σ:ah):Option (PV×ah):=match p with
 | .int i=>some (.int i,σ)
 |_=>none
noncomputable def Be:List PV→ah→Option (PV×ah):=pW aeC
theorem acd:eh ae w ag n (.type "int") Be:= .vQ λc m σ v p H V=>by
 cases p with
 |int i=>exact RV.eI V λt=>bk.same H λQ q=>call_int_int (q _ m.tk (.int _ _))
 |_=>exact bk.no
noncomputable def aeD(p:PV)(σ:ah):Option (PV×ah):=match p with
 | .int a=>some (.d7 0 a,σ)
 |_=>none
noncomputable def adi(p q:PV)(σ:ah):Option (PV×ah):=match p with
 | .int a=>match q with
  | .int b=>some (.d7 a b,σ)
  |_=>none
 |_=>none
noncomputable def gz:List PV→ah→Option (PV×ah):=Bd aeD adi
theorem LO{h:aF}(o:Obj):∀a o',h.get? a=some o'→(h.push o).get? a=some o':=λz z e=>cR _ e
theorem X6:eh ae w ag n (.type "range") gz:= .He (λc m σ v p H V=>by
 cases p with
 |int i=>exact RV.eI V λt=>bk.grow H λQ q=>call_range_1 (q _ _ (_,_) (LO _) (.d7 (IsRange.new ..) (kf H.st)))
 |_=>exact bk.no) λc m σ v u p q H V U=>by
 cases p with
 |int i=>cases q with
  |int j=>exact RV.eI V λz=>RV.eI U λz=>bk.grow H λQ q=>call_range_2 (q _ _ (_,_) (LO _) (.d7 (IsRange.new ..) (kf H.st)))
  |_=>exact bk.no
 |_=>exact bk.no
def jT:List PV→ah→Option (PV×ah):=pW λp σ=>(vv (dp σ p)).bind λq=>if q.2.length≤100000 then some (.lst q.2,σ)else none
theorem aai:eh ae w ag n (.type "list") jT:= .vQ λc m σ v p H V=>
 bk.seq (F:=λv=>call (.type "list") [v]) H V λb l a vs k z ht hl r z=>bk.if1 λhb=>by
  have hz:vs.size≤sM:=hl▸ao hb (by decide);cases b with
  |true=>exact bk.grow H λQ q=>call_list_seq a (.inr rfl) ht rfl rfl (λh' c' k hn=>q _ h' m.tk k (.lst hn (kf H.st) (a7.mono k r))) hz
  |false=>exact bk.grow H λQ q=>call_list_seq a (.inl rfl) ht rfl rfl (λh' c' k hn=>q _ h' m.tk k (.lst hn (kf H.st) (a7.mono k r))) hz
def jv:List PV→ah→Option (PV×ah):=pW λp σ=>(vv (dp σ p)).bind λq=>if q.1=true∨q.2.length≤100000 then some (.tup q.2,σ)else none
theorem X7:eh ae w ag n (.type "tuple") jv:= .vQ λc m σ v p H V=>
 bk.seq (F:=λv=>call (.type "tuple") [v]) H V λb l a vs k hp ht hl r V'=>bk.if1 λhb=>by
  cases b with
  |true=>exact bk.same H λQ q=>call_tuple_same ⟨_,ht,rfl,k,rfl⟩ (q _ m.tk (hp rfl▸V'))
  |false=>
   refine bk.grow H λQ q=>call_tuple_list (rq ht) (λh' k=> ?_) (hl▸ao (hb.elim (λz=>cL z) id) (by decide));have k2:∀a o,m.h.get? a=some o→(h'.push {cls:= .type "tuple",data:= .seq vs}).get? a=some o:=λa o e=>cR _ (k a o e);exact q _ _ m.tk k2 (.tup (n:=0) (IsT.new ..) (λmm=>nG (H.st.there _ mm) λo eo=>bP (dy (k _ _ eo)) (gJ _)) (a7.mono k2 r))
noncomputable def OR:PV→Option Nat
 | .int _=>some 0
 | .bool _=>some 1
 | .str _=>some 2
 | .tup _=>some 3
 | .lst _=>some 4
 |_=>none
def qA(t:String)(p:PV):Option Bool:=(OR p).bind λk=>if t="int" then some (decide (k<2))else if t="bool" then some (decide (k=1))else if t="tuple" then some (decide (k=3))else none
def gN(t:String)(c:CE):CE:=λρ σ=>(c ρ σ).bind λr=>(qA t r.1).bind λb=>some (.bool b,r.2)
theorem bk.isi{t:String}{p:PV}(H:Hy ae w ag n c m σ)(V:Vm m v p):bk ae w ag c m (call (.builtin "isinstance") [v,.type t]) ((qA t p).bind λb=>some (.bool b,σ)) Vm:=by
 have x3:KU (.type "int")=pure (.type "type"):=by kernel_rfl
 have x4:KU (.type "bool")=pure (.type "type"):=by kernel_rfl
 have x5:KU (.type "tuple")=pure (.type "type"):=by kernel_rfl
 have fin:∀{t:Sem au} {b:Bool},(∀Q:au→aE→Prop,(∀tk:TK,Q (.bool b) (c.at ⟨m.h,tk,m.α⟩))→aY (ba ae w) c.A t Q c.E (c.at m))→bk ae w ag c m t (some (.bool b,σ)) Vm:=λh=>bk.same H λQ q=>h Q λtk=>q _ tk (.bool _);by_cases t1:t="int"
 ·clear H;subst t1;cases V with
  |int=>exact fin λQ q=>k8 (CV (Tx:="int") x3 (by rw[gX];kernel_rfl)) ⟨typeIs_int _ _ _,q m.tk⟩
  |bool=>exact fin λQ q=>k8 (CV (Tx:="bool") x3 (by rw[gX];kernel_rfl)) ⟨rfl,q m.tk⟩
  |str=>exact fin λQ q=>k8 (JM (by decide) x3 (by rw[gX];kernel_rfl)) (q (_,_))
  |tup h1=>exact fin λQ q=>k8 (isinstance_false_tuple (by decide) x3 (by rw[gX];kernel_rfl)) ⟨⟨_,h1,rfl⟩,q (_,_)⟩
  |lst h1=>exact fin λQ q=>k8 (JF (by decide) x3 (by rw[gX];kernel_rfl)) ⟨⟨_,h1,rfl⟩,q (_,_)⟩
  |_=>exact bk.no
 by_cases t2:t="bool"
 ·clear H t1;subst t2;cases V with
  |int=>exact fin λQ q=>k8 (isinstance_false_int (by decide) x4 (by rw[gX];kernel_rfl)) (q (_,_))
  |bool=>exact fin λQ q=>k8 (CV (Tx:="bool") x4 (by rw[gX];kernel_rfl)) ⟨rfl,q m.tk⟩
  |str=>exact fin λQ q=>k8 (JM (by decide) x4 (by rw[gX];kernel_rfl)) (q (_,_))
  |tup h1=>exact fin λQ q=>k8 (isinstance_false_tuple (by decide) x4 (by rw[gX];kernel_rfl)) ⟨⟨_,h1,rfl⟩,q (_,_)⟩
  |lst h1=>exact fin λQ q=>k8 (JF (by decide) x4 (by rw[gX];kernel_rfl)) ⟨⟨_,h1,rfl⟩,q (_,_)⟩
  |_=>exact bk.no
 by_cases t3:t="tuple"
 ·clear H t1 t2;subst t3;cases V with
  |int=>exact fin λQ q=>k8 (isinstance_false_int (by decide) x5 (by rw[gX];kernel_rfl)) (q (_,_))
  |bool=>exact fin λQ q=>k8 (isinstance_false_bool (by decide) x5 (by rw[gX];kernel_rfl)) (q (_,_))
  |str=>exact fin λQ q=>k8 (JM (by decide) x5 (by rw[gX];kernel_rfl)) (q (_,_))
  |tup h1=>exact fin λQ q=>k8 (CV (Tx:="tuple") x5 (by rw[gX];kernel_rfl)) ⟨⟨_,h1,rfl⟩,q m.tk⟩
  |lst h1=>exact fin λQ q=>k8 (JF (by decide) x5 (by rw[gX];kernel_rfl)) ⟨⟨_,h1,rfl⟩,q (_,_)⟩
  |_=>exact bk.no
 unfold qA;cases OR p with
 |none=>exact bk.no
 |some k=>
  show bk ae w ag c m _ (Dq (if t="int" then _ else if t="bool" then _ else if t="tuple" then _ else none) _) Vm;rw[aS t1,aS t2,aS t3];exact bk.no
theorem ace{p pos:Pos}{e:a6}{t:String}{c:CE}(G:GV ae w ag aa (.Name (S "isinstance") p) (.builtin "isinstance"))(G2:GV ae w ag aa (.Name (S t) p2) (.type t))(hp:notStar e=true)(h:SE ae w ag n aa (eval e aa) c):
 SE ae w ag n aa (eval (.Call (.Name (S "isinstance") p) [e,.Name (S t) p2] [] pos) aa) (gN t c):= .of λcx m ρ σ K=>λr aq ec Q q=>cy ec λx bj e1 ec=>by
 refine Call_ (G _ _ _ _ K.re.fn K.re.gl K.re.bu K.rs.base ?_);have dU: [e,.Name (S t) p2].all notStar=true:=by rw[wC,hp];rfl
 refine o6 (P:=λh=>∀b o,ag.get? b=some o→h.get? b=some o) (by rw[lO dU];rfl) oS (nV dU ?_);refine sE (h.sp K x bj e1 _ λm1 v l T V=> ?_) (oR hp _ _);have K1:=K.to l T;exact sE (G2 _ _ _ _ K1.re.fn K1.re.gl K1.re.bu T.base (uY ⟨T.base,bk.isi K1.hy V _ _ ec _ λm2 v2 l2=>q m2 v2 (l.trans l2)⟩)) (oR rfl _ _)
end
variable{fs:List CT}
section
variable{ae:bw}{w:br}{ag:aF}{K:Frag}{n:Nat}{aa:Env}
theorem RV.Nf{h:aF}{α:Al}(X:dN aa h h' α aD)(R:RE ag h aa α ρ)(C:hF aa):(∀v p,RV h α v p→RV h' aD v p)∧∀vs ps,a7 h α vs ps→a7 h' aD vs ps:=
 RV.map (λa o e nv n=>⟨X.keep a o e n (λq=>nv (sG R.ns (q▸e))) λx q=>bP (Kz (R.z9 C q).2.choose_spec e) nv,X.mZ e n⟩)
  λn a b e=>X.pre.elim λβ z=>z▸(jn (fe.mp e).1).trans e
theorem RV.st{h:aF}{α:Al}(X:dN aa h h' α aD)(R:RE ag h aa α ρ)(C:hF aa){p:PV}(V:RV h α v p):RV h' aD v p:=(RV.Nf X R C).1 _ _ V
theorem a7.st{h:aF}{α:Al}(X:dN aa h h' α aD)(R:RE ag h aa α ρ)(C:hF aa){v:List au}{p:List PV}(V:a7 h α v p):a7 h' aD v p:=(RV.Nf X R C).2 _ _ V
abbrev CT:=PV→aO→ah→Option (aO×ah)
def ST(ae:bw)(w:br)(ag:aF)(n:Nat)(aa:Env)(t:au→Sem Unit)(f:CT):Prop:=
 ∀(A:bO) (s:aE) (α:Al) (ρ:aO) (σ:ah) (v:au) (p:PV) (ai:aO) (aq:ah) (E:au→aE→Prop) (Q:Unit→aE→Prop),fc n A→RE ag s.heap aa α ρ→RS ae w ag s.heap α σ→RV s.heap α v p→
  f p ρ σ=some (ai,aq)→(∀h' (tk:TK) aD,dN aa s.heap h' α aD→RE ag h' aa aD ai→RS ae w ag h' aD aq→Q () {s with heap:=h',toks:=tk.1,drawn:=tk.2})→aY (ba ae w) A (t v) Q E s
noncomputable def a8(x:String):CT:=λp ρ σ=>some (ρ.set x p,σ)
theorem aaj{x:String}(hn:SN ae w ag aa x):ST ae w ag n aa (bindName aa (S x)) (a8 x):=by
 intro A s α ρ σ v p ai aq E Q _ R T V e q;(refine cw e λaL aM=> ?_;clear e;subst aL aM);exact bindName_ (hn A s α ρ σ v p E _ R T V λh' tk X R' T' z=>q h' tk α X R' T')
theorem aak{x:String}{pos:Pos}(hn:SN ae w ag aa x):ST ae w ag n aa (assign (.Name (S x) pos) aa) (a8 x):=by
 intro A s α ρ σ v p ai aq E Q _ R T V e q;(refine cw e λaL aM=> ?_;clear e;subst aL aM);exact assign_Name (hn A s α ρ σ v p E _ R T V λh' tk X R' T' z=>q h' tk α X R' T')
noncomputable def tL:List CT→List PV→aO→ah→Option (aO×ah)
 | [],[],ρ,σ=>some (ρ,σ)
 |t::ts,p::ps,ρ,σ=>(t p ρ σ).bind λr=>tL ts ps r.1 r.2
 |_,_,_,_=>none
noncomputable def gP(ts:List CT):CT:=λp ρ σ=>match p with
 | .tup l=>tL ts l ρ σ
 |_=>none
noncomputable def vR(ae:bw)(w:br)(ag:aF)(n:Nat)(aa:Env):List (au→Sem Unit)→List CT→Prop
 | [],[]=>True
 |t::ts,f::fs=>ST ae w ag n aa t f∧vR ae w ag n aa ts fs
 |_,_=>False
theorem V6{ts:List (au→Sem Unit)}:∀{fs:List CT},vR ae w ag n aa ts fs→ts.length=fs.length:=by
 induction ts with
 |nil=>
  exact λ{fs} h=>by
   cases fs with
   |nil=>rfl
   |cons=>exact h.elim
 |cons t ts ih=>
  exact λ{fs} h=>by
   cases fs with
   |nil=>exact h.elim
   |cons=>exact bV zZ (ih h.2)
theorem WM:∀{ps:List PV} {ρ:aO} {σ:ah} {r:aO×ah},tL fs ps ρ σ=some r→fs.length=ps.length:=by
 induction fs with
 |nil=>
  exact λ{ps _ _ _} e=>by
   cases ps with
   |nil=>rfl
   |cons=>exact aQ e
 |cons f fs ih=>
  exact λ{ps _ _ _} e=>by
   cases ps with
   |nil=>exact aQ e
   |cons=>exact c4 e λq z e2=>bV zZ (ih e2)
theorem Mq(C:hF aa){ts:List (au→Sem Unit)}:∀{fs:List CT},vR ae w ag n aa ts fs→∀(A:bO) (s:aE) (α:Al) (ρ:aO) (σ:ah) (vs:List au) (ps:List PV) (ai:aO) (aq:ah) (E:au→aE→Prop) (Q:Unit→aE→Prop),
 fc n A→RE ag s.heap aa α ρ→RS ae w ag s.heap α σ→a7 s.heap α vs ps→tL fs ps ρ σ=some (ai,aq)→
 (∀h' (tk:TK) aD,dN aa s.heap h' α aD→RE ag h' aa aD ai→RS ae w ag h' aD aq→Q () {s with heap:=h',toks:=tk.1,drawn:=tk.2})→aY (ba ae w) A (assignInOrder ts vs) Q E s:=by
 induction ts with
 |nil=>
  exact λ{fs} h A s α ρ σ vs ps ai aq E Q ho R T V e q=>by
   cases fs with
   |nil=>cases V with
    |nil=>exact cw e λe1 e2=>a4 (q _ (s.toks,s.drawn) α (dN.refl ..) (e1▸R) (e2▸T))
    |cons=>exact aQ e
   |cons=>exact h.elim
 |cons t ts ih=>
  exact λ{fs} h A s α ρ σ vs ps ai aq E Q ho R T V e q=>by
   cases fs with
   |nil=>exact h.elim
   |cons f fs=>cases V with
    |nil=>exact aQ e
    |cons a b=>exact cy e λaA bj e1 e2=>aB (m:=holding _ (t _)) (fA (h.1 A s α ρ σ _ _ aA bj E _ ho R T a e1 λh' tk aD X R' T'=>
     ih h.2 A _ aD aA bj _ _ ai aq E Q ho R' T' (b.st X R C) e2 λdI c6 d4 Y eB du=>q dI c6 d4 (X.trans Y (eB.cn C)) eB du))
end
noncomputable def put{K:Type} [DecidableEq K](k:K)(v:PV)(l:List (K×PV)):List (K×PV):=if l.any (λkv=>kv.1=k)then l.map (λkv=>if kv.1=k then(kv.1,v)else kv)else l++ [(k,v)]
noncomputable def tC(x:String)(v:PV):List (String×PV)→List (String×PV)
 | []=> [(x,v)]
 |p::r=>if p.1=x then(p.1,v)::r else p::tC x v r
section
variable{ae:bw}{w:br}{ag:aF}{K:Frag}{n:Nat}{aa:Env}
theorem KO{h:aF}{L b:aI}(e:uJ b h h')(hb:h.get? b=none):Kp L h h':=Kp.of λa o g=>e a o (λz=>by clear e;subst z;rw[hb]at g;exact aQ g) g
theorem X8(C:hF aa){pos:Pos}(h:vR ae w ag n aa ((o7 es aa).map (·.2)) fs)(adj:(o7 es aa).findIdx? (·.1)=none):ST ae w ag n aa (assign (.Tuple es k pos) aa) (gP fs):=by
 intro A s α ρ σ v p ai aq E Q ho R T V e q;cases V with
 | @tup a vs m ps ht hn r=>
  have e':tL fs _ ρ σ=some (ai,aq):=e;refine wpAny_assign_Tuple ho.1 (items:=vs) ⟨_,ht,rfl,m,rfl⟩ (by rw[←bB (f:=(·.2)),V6 h,(WM e'),←r.length,gw]) adj λh' he=> ?_;have kp:=KO (L:=aa.locals) he (fR _);exact Mq C h A _ α ρ σ _ _ ai aq E Q ho (R.ext (kp.ext α)) (T.kp kp R.dX R.ns R.L0) (r.ext (kp.ext α) R.ns) e' λdI tk aD X R' T'=>q dI tk aD ((kp.ext α).ql X) R' T'
 |none=>exact aQ e
 |bool=>exact aQ e
 |int=>exact aQ e
 |str=>exact aQ e
 |lst=>exact aQ e
 |d7=>exact aQ e
 |loc=>exact aQ e
noncomputable def cW(c:CE)(f:CT):CS:=λρ σ=>(c ρ σ).bind λr=>(f r.1 ρ r.2).bind λq=>some (.next,q.1,q.2)
theorem WN{t:a6}{pos:Pos}{c:CE}{f:CT}(h:SE ae w ag n aa (eval value aa) c)(ht:ST ae w ag n aa (assign t aa) f)(hs:Dc [t] value pos.line aa=pure false)(hw:y8 [t] value aa=pure none)
 (he:(o7 [t] aa).map (·.2)= [assign t aa]):SS ae w ag n aa (exec (.Assign [t] value pos) aa) (cW c f):=by
 intro A s α ρ σ fl ai aq E Q ho R T e q;refine cy e λv bj e1 e=> ?_;refine cy e λbL dt e2 e=> ?_;(refine iK e λaL aM eG=> ?_;clear e;subst aL aM eG);refine wpAny_Assign_stores (h A s α ρ σ v bj E _ ho R T e1 λv h' tk aD X T' V=> ?_) hs hw;rw[he];exact ht A _ aD ρ bj v _ _ _ E _ ho (R.ext X) T' V e2 λdI c6 d4 Y eB du=>q .next dI c6 d4 (X.ql Y) eB du .next
noncomputable def iH(xs:List String)(c:CE):CS:=λρ σ=>(c ρ σ).bind λr=>match r.1 with
 | .tup l=>if l.length=xs.length then(tL (xs.reverse.map a8) l.reverse ρ r.2).bind λq=>some (.next,q.1,q.2)else none
 |_=>none
theorem WO{xs:List String}(h:∀x∈xs,SN ae w ag aa x):vR ae w ag n aa (xs.map λx=>bindName aa (S x)) (xs.map a8):=by
 induction xs with
 |nil=>trivial
 |cons x xs ih=>exact⟨aaj (h x mM),ih λy hy=>h y (kF _ hy)⟩
set_option tactic.hygienic true in
theorem aal(C:hF aa){Hh pos:Pos}{xs:List String}{c:CE}(hn:∀x∈xs,SN ae w ag aa x)(h:SE ae w ag n aa (eval value aa) c)
 (hs:Dc [.Tuple es k Hh] value pos.line aa=pure false) (hw:y8 [.Tuple es k Hh] value aa=pure (some (xs.map S))):SS ae w ag n aa (exec (.Assign [.Tuple es k Hh] value pos) aa) (iH xs c):=by
 intro A s α ρ σ fl ai aq E Q ho R T e q;refine cy e λv bj e1 e=> ?_;refine Assign_Tuple_swapped (names:=xs.map S) (h A s α ρ σ v bj E _ ho R T e1 λv h' tk aD X T' V=> ?_) hs hw;cases V with
 |tup ht hnn r=>
  have e':(if _ then _ else _)=some (fl,ai,aq):=e;split at e'
  ·rename_i a vs m ps hl;(refine cy e' λbL dt e2 e3=> ?_;clear e');(refine iK e3 λaL aM eG=> ?_;clear e3;subst aL aM eG);rw[(by rw[bB,←hl,←r.length,gw]:(xs.map S).length=vs.size)];refine wpAny_unpackItems_tuple ho.1 (items:=vs) ⟨_,ht,rfl,m,rfl⟩ λdI he=> ?_;have kp:=KO (L:=aa.locals) he (fR _);have R':=R.ext X;rw[show(List.map S xs).reverse.map (λn=>bindName aa n)=xs.reverse.map λx=>bindName aa (S x) by rw[←List.map_reverse,kH];rfl];exact Mq C (WO (n:=n) (xs:=xs.reverse) λx hx=>hn x (List.mem_reverse.mp hx)) A _ aD ρ bj _ _ _ _ E _ ho (R'.ext (kp.ext aD)) (T'.kp kp R'.dX R'.ns R'.L0) (r.reverse.ext (kp.ext aD) R'.ns) e2 λh3 c6 d4 Y eB du=>q .next h3 c6 d4 (X.ql ((kp.ext aD).ql Y)) eB du .next
  ·exact aQ e'
 |none=>exact aQ e
 |bool=>exact aQ e
 |int=>exact aQ e
 |str=>exact aQ e
 |lst=>exact aQ e
 |d7=>exact aQ e
 |loc=>exact aQ e
theorem w4{h:aF}{l:aI}(hl:IsL h l items m)(f:Array au→Array au):∃m',IsL (h.update l (nW f)) l (f items) m':=
 ⟨_,yA _ hl (by rfl)⟩
theorem VB{A:bO}{E:au→aE→Prop}{s:aE}{l:aI}{k:Int}{t:Tok}{Q:Unit→aE→Prop}(hl:IsL s.heap l items m)(h0:0≤k)(Qc:k<2^63)(hk:k<items.size)
 (hQ:Q () {s with heap:=s.heap.update l (nW (·.setIfInBounds k.toNat v))}):aY (ba ae w) A (setItem (.ref l) (.int k t) v) Q E s:=by
 have hT:s.TypeIs (.ref l) "list":=⟨_,hl,rfl⟩;unfold setItem
 try with_reducible refine fA ?_
 first|refine aB (a4 ?_)|skip
 refine aB (wpAny_sequenceKey hT (by decide) ?_);refine aB (q5 (name:=lg "__setitem__") hT slot_list_setitem
  (kY slot_list_setitem hT entry_list_setitem ?_ (args_list_setitem _ _ _)))
 show aY _ _ (Builtin.List.listSubscript? (.int k t)>>=_) _ _ s;refine aB (wpAny_listSubscript_int (fitsIndex_of h0 Qc) ?_);clear Qc;(refine bG (Int.eq_ofNat_of_zero_le h0) λj aM=> ?_;clear h0;subst aM);refine aB (aB (wpAny_seqItemAt hl rfl (a4 ?_)));rw[(uk (gg.mp hk))];refine aB (wpAny_setSeqItemAt hl rfl ?_)
 first
  |exact aB (a4 (a4 ⟨.none,rfl,a4 hQ⟩))
  |exact a4 ⟨.none,rfl,a4 hQ⟩
theorem Lr{A:bO}{E:au→aE→Prop}{s:aE}{l:aI}{x:au}(hl:IsL s.heap l items m)(d8:items.size≤sM)
 (hQ:Q .none {s with heap:=s.heap.update l (nW (·.push x))}):aY (ba ae w) A (call (.builtin "list.append") [.ref l,x]) Q E s:=by
 refine kY slot_list_append ⟨_,hl,rfl⟩ entry_list_append ?_ (args_list_append _ _);show aY _ _ (updateSeq l (·.push x)>>=λz=>ret .none) _ _ s;exact aB (yW hl rfl (a4 ⟨.none,rfl,hQ⟩) d8 (by rw[CW];exact bH d8 1))
theorem DO{h:aF}{a:aI}{f:Obj→Obj}:∀x o,h.get? x=some o→x≠a→(h.update a f).get? x=some o:=λz z e n=>(yD _ _ _ _ n).trans e
end
noncomputable def ij(o:CE)(C:Nat)(x:String):CE:=λρ σ=>(o ρ σ).bind λr=>match r.1 with
 | .loc k=>match r.2[k]? with
  |some (.inst C' l)=>if C'=C then(l.lookup x).bind λv=>some (v,r.2)else none
  |_=>none
 |_=>none
def jU(o:CE)(C:Nat)(x:String):CT:=λp ρ σ=>(o ρ σ).bind λr=>match r.1 with
 | .loc k=>match r.2[k]? with
  |some (.inst C' l)=>if C'=C∧l.length<1000 then some (ρ,r.2.set k (.inst C (tC x p l)))else none
  |_=>none
 |_=>none
def Et(K:Frag)(C:Nat)(x:String):Prop:=jy K (.ref C) "__setattr__"=some (some (.builtin "object.__setattr__"))∧plainOver K C=true∧takerIn K C (S x)=some none∧zM K C=true
section
variable{ae:bw}{w:br}{ag:aF}{K:Frag}{n:Nat}{aa:Env}
theorem X9(B:lW K ag){o:a6}{C:Nat}{x:String}{pos:Pos}{c:CE}(hC:zQ K C x)(h:SE ae w ag n aa (eval o aa) c)
 (hb:rj o (S x) aa (eval o aa)=eval o aa) (hl:∀a r,C3 o a r=pure ()):SE ae w ag n aa (eval (.Attribute o (S x) pos) aa) (ij c C x):=by
 intro A s α ρ σ pv aq E Q ho R T e0 q;obtain⟨⟨v,bj⟩,e1,e⟩:=mK.mp e0;clear e0;cases v with
 |loc k=>
  dsimp only at e;cases e2:bj[k]? with
  |none=>rw[e2]at e;exact aQ e
  |some o'=>cases o' with
   |inst C' l=>
    rw[e2]at e;refine gF e λhc e0=> ?_;clear e;subst hc;(refine c4 e0 λp e3 e4=> ?_;clear e0);(refine cw e4 λaL aM=> ?_;clear e4;subst aL aM);show aY _ _ (do
     let o'←rj o (S x) aa (eval o aa)
     ig pos.atName
     let r←holding [o'] (getAttr o' (S x) true)
     C3 o o' r
     pure r) _ _ _
    rw[hb];refine aB (h A s α ρ σ _ _ E _ ho R T e1 λv h' tk aD X T' V=>aB (oW (aB (fA ?_))));refine Vz B hC T' V e2 e3 λu Vu=> ?_;rw[hl];exact aB (a4 (a4 (q u h' (_,_) aD X T' Vu)))
   |_=>rw[e2]at e;exact aQ e
 |_=>exact aQ e
theorem WQ{x:String}{t:Tok}{y:String}(e:v= .str (S y) t):v.isStr (S x)=decide (y=x):=by
 subst e;show(S y==S x)=_;by_cases q:y=x
 ·subst q;simp
 ·have:(S y==S x)=false:=by rw[kc];exact λz=>q (jz z)
  rw[this];simp[q]
theorem N7{h:aF}{α:Al}{x:String}{t:Tok}{v:au}{p:PV}(V:RV h α v p):∀{es:List lR} {l:List (String×PV)},RA w h α es l→RA w h α (putL (S x) (wz w.params (S x)) (.str (S x) t) v es) (tC x p l)
 | [],[],_=>⟨⟨t,rfl⟩,rfl,V,trivial⟩
 |e::es,q::ps,⟨⟨u,a⟩,b,c,d⟩=>by
  have ha:=WQ (x:=x) a;by_cases z:q.1=x
  ·rw[bN z]at ha;rw[show putL (S x) (wz w.params (S x)) (.str (S x) t) v (e::es)=⟨e.hash,e.key,v⟩::es from aP ha,show tC x p (q::ps)=(q.1,p)::ps from aP z];exact⟨⟨u,a⟩,b,V,d⟩
  ·rw[bT z]at ha;rw[show putL (S x) (wz w.params (S x)) (.str (S x) t) v (e::es)=e::putL (S x) (wz w.params (S x)) (.str (S x) t) v es from aS (ha▸wj),show tC x p (q::ps)=q::tC x p ps from aS z];exact⟨⟨u,a⟩,b,c,N7 V d⟩
 | [],_::_,k=>k.elim
 |_::_,[],k=>k.elim
theorem VC(x:Str)(hs:Int)(k v:au):∀es:List lR,(putL x hs k v es).length≤es.length+1:=by
 intro x0
 induction x0 with
 |nil=>exact cH _
 |cons e es ih=>
  unfold putL;split
  ·simp
  ·have:=ih;simp;exact this
theorem LP{h:aF}{α:Al}:∀{es:List lR} {l:List (String×PV)},RA w h α es l→es.length=l.length
 | [],[],_=>rfl
 |_::_,_::_,⟨_,_,_,d⟩=>by simp[LP d]
 | [],_::_,k=>k.elim
 |_::_,[],k=>k.elim
theorem Mr{h:aF}{α:Al}:∀{es:List lR} {l:List (String×PV)},RA w h α es l→es.any (·.refKey)=false
 | [],_,_=>rfl
 |e::es,q::ps,⟨⟨u,a⟩,_,_,d⟩=>by rw[uD,Mr d,UJ,a];rfl
 |_::_,[],k=>k.elim
theorem aam{h:aF}{α:Al}{x:String}{es:List lR}{l:List (String×PV)}(r:RA w h α es l):(getL (S x) es).isSome=true:=by
 unfold getL;cases es.find? (·.key.isStr (S x))with
 |some=>rfl
 |none=>show(if es.any _=true then none else some none:Option (Option au)).isSome=true;rw[Mr r];rfl
theorem VD(B:lW K ag){C:Nat}{x:String}{A:bO}{s:aE}{α:Al}{ov:au}{l:List (String×PV)}{p:PV}{E:au→aE→Prop}{Q:Unit→aE→Prop}
 (hC:Et K C x) (R:RE ag s.heap aa α ρ) (T:RS ae w ag s.heap α σ) (Vo:RV s.heap α ov (.loc k)) (V:RV s.heap α v p) (e:σ[k]? =some (.inst C l)) (hz:l.length<1000)
 (q:∀h' (tk:TK),cp aa.locals s.heap h' α α→RS ae w ag h' α (σ.set k (.inst C (tC x p l)))→Q () {s with heap:=h',toks:=tk.1,drawn:=tk.2}):aY (ba ae w) A (setAttr ov (S x) v) Q E s:=by
 (refine G8 (Eb T Vo e) λa b es m gR ea nI hb I r=> ?_;clear Vo;subst gR);refine bG (R.fr T) λmm F=> ?_;(refine xC hC λh1 h2 h3 h4=> ?_;clear hC);have ho:=mW ea;have N:News ag aa.locals s.heap ((b,dictOf es m)::(og ag s.heap aa.locals).filter λp=>p.1≠b):=λp hp=>by
  rcases cG.mp hp with rfl|hp
  ·exact⟨hb,(λz=>R.dX (z▸ho.2):b≠aa.locals),T.new b ho.2⟩
  ·exact qh p ((ib.mp hp).1)
 refine set_dict F B.pS N I rfl h1 h2 h3 h4 (aam r) rfl (.head λp hp=>by simpa using(ib.mp hp).2) (ao (VC ..) (by rw[LP r];exact hz)) λh' F' N'=> ?_;have keep:∀x o,s.heap.get? x=some o→x≠a→x≠b→x≠aa.locals→h'.get? x=some o:=λx o e y nb l=>by
  cases q:ag.get? x with
  |some o'=>have:=T.base x o' q;rw[e]at this;(refine cj this λaL=> ?_;clear this;subst aL);exact F'.keep x o q
  |none=>exact(N' _ (kF _ (ib.mpr ⟨rA.mpr ⟨e,q,l⟩,by simpa using nb⟩))).1
 have ka:h'.get? a=some (instObj C b):=by
  have:ag.get? a=none:=T.new a ho.1;exact(N' (a,instObj C b) (kF _ (ib.mpr ⟨rA.mpr ⟨I.1,this,(λz=>R.dX (z▸ho.1))⟩,by simpa using nI⟩))).1
 have kb:=(N' _ (mM)).1;have rR:∀m',s.heap.Ns aa.locals m'→h'.Ns aa.locals m':=λm' e=>by rw[e.eq_nsMap,←F.ns.eq_nsMap];exact F'.ns
 have X:=z6 (L:=aa.locals) ea keep rR;exact q h' (_,_) X (T.upd ea keep rR R.dX R.ns R.L0 (by rw[ka];rfl) (by rw[kb];rfl) ⟨nI,ka,_,_,kb,N7 (V.ext X R.ns) (r.ext X R.ns)⟩)
theorem aan(B:lW K ag){o:a6}{C:Nat}{x:String}{pos:Pos}{c:CE}(hC:Et K C x)(h:SE ae w ag n aa (eval o aa) c):ST ae w ag n aa (assign (.Attribute o (S x) pos) aa) (jU c C x):=by
 intro A s α ρ σ v p ai aq E Q ho R T V e q;refine cy e λpv bj e1 e=> ?_;cases pv with
 |loc k=>
  dsimp only at e;cases e2:bj[k]? with
  |none=>rw[e2]at e;exact aQ e
  |some o'=>cases o' with
   |inst C' l=>
    rw[e2]at e;refine gF e λhc e=> ?_;(refine cM hc λaL hl=> ?_;clear hc;subst aL);(refine cw e λaL aM=> ?_;clear e;subst aL aM);refine aB (fA (h A s α ρ σ _ _ E _ ho R T e1 λov h' tk aD X T' Vo=>aB (oW (aB (fA ?_)))));refine VD B hC (R.ext X) T' Vo (V.ext X R.ns) e2 hl λdI c6 Y du=> ?_;exact wpAny_release (q dI c6 aD (X.trans Y).st ((R.ext X).ext Y) du)
   |_=>rw[e2]at e;exact aQ e
 |_=>exact aQ e
end
def Qd(o:PO)(i p:PV):Option PO:=match o with
 | .list l=>match i with
  | .int i=>if 0≤i∧i<l.length∧l.length≤1000000 then some (.list (l.set i.toNat p))else none
  |_=>none
 | .aU l=>match i with
  | .int i=>if l.length≤1000000 then some (.aU (put i p l))else none
  |_=>none
 | .cZ l=>match i with
  | .str x=>if l.length≤1000000 then some (.cZ (put x p l))else none
  |_=>none
 |_=>none
def gm(o i:CE):CT:=λp ρ σ=>(o ρ σ).bind λr=>(i ρ r.2).bind λq=>match r.1 with
 | .loc k=>(q.2[k]?).bind λo=>(Qd o q.1 p).bind λo'=>some (ρ,q.2.set k o')
 |_=>none
theorem a7.set{h:aF}{α:Al}{p:PV}(V:RV h α v p):∀{vs:List au},a7 h α vs ps→∀i,a7 h α (vs.set i v) (ps.set i p):=by
 induction ps with
 |nil=>exact λr y=>r.iN λz=>z▸ .nil
 |cons q ps ih=>
  exact λr i=>r.iC λu us z a b=>z▸(by
   cases i with
   |zero=>exact .cons V b
   |succ i=>exact .cons a (ih b i))
section
variable{κ mj:Type} [DecidableEq κ] [DecidableEq mj]{f:mj→κ}(hf:∀a b,f a=f b→a=b){k:mj}{v:au}{p:PV}{h:aF}{α:Al}{l:List (mj×PV)}
include hf
theorem Ng:∀{kvs:List (κ×au)},kvs.map (·.1)=l.map (λq=>f q.1)→kvs.any (λkv=>decide (kv.1=f k))=l.any (λkv=>decide (kv.1=k)):=by
 induction l with
 |nil=>
  intro kvs e;cases kvs with
  |nil=>rfl
  |cons=>exact rN e.symm
 |cons q l ih=>
  intro kvs e;cases kvs with
  |nil=>exact rN e
  |cons a kvs=>
   have e1:=nS e;rw[uD,ih e1.2,show a.1=f q.1 from e1.1];exact bV (· ||_) (rg.mpr ⟨hf _ _,bV f⟩)
theorem LQ{kvs:List (κ×au)}(e:kvs.map (·.1)=l.map (λq=>f q.1)):(stored kvs (f k) v).map (·.1)=(put k p l).map (λq=>f q.1):=by
 unfold stored put;rw[Ng hf e];by_cases b:l.any (λkv=>decide (kv.1=k))=true
 ·rw[aP b,aP b,kH,kH];exact(yE λx z=>by dsimp only[Function.comp];split<;>rfl).trans (e.trans (yE λx z=>by dsimp only[Function.comp];split<;>rfl))
 ·rw[aS b,aS b,mO,mO,e];rfl
theorem LR(V:RV h α v p){kvs:List (κ×au)}(e:kvs.map (·.1)=l.map (λq=>f q.1))(r:a7 h α (kvs.map (·.2)) (l.map (·.2))):a7 h α ((stored kvs (f k) v).map (·.2)) ((put k p l).map (·.2)):=by
 unfold stored put;rw[Ng hf e];by_cases b:l.any (λkv=>decide (kv.1=k))=true
 ·rw[aP b,aP b];clear b
  induction l generalizing kvs with
  |nil=>
   cases kvs with
   |nil=>exact .nil
   |cons=>exact rN e.symm
  |cons q l ih=>
   cases kvs with
   |nil=>exact rN e
   |cons a kvs=>
    have e1:=nS e;refine r.iC λu us z a1 b1=> ?_;have z:=nS z;have I:=ih e1.2 (z.2▸b1);by_cases c:q.1=k
    ·rw[jq,jq,jq,jq,aP c,aP (show a.1=f k from(show a.1=f q.1 from e1.1).trans (bV f c))];exact .cons V I
    ·rw[jq,jq,jq,jq,aS c,aS λw=>c (hf _ _ ((show a.1=f q.1 from e1.1).symm.trans w))];exact .cons (show RV h α a.2 q.2 from(show u=a.2 from z.1.symm)▸a1) I
 ·rw[aS b,aS b,mO,mO];exact r.append (.cons V .nil)
end
theorem Ms{K:Type} [DecidableEq K]{kvs:List (K×au)}{l:List (K×PV)}{k:K}{p:PV}(e:kvs.map (·.1)=l.map (·.1)):(stored kvs k v).map (·.1)=(put k p l).map (·.1):=LQ (f:=id) (λy y z=>z) e
theorem Mt{K:Type} [DecidableEq K]{h:aF}{α:Al}{k:K}{p:PV}(V:RV h α v p){kvs:List (K×au)}{l:List (K×PV)}(e:kvs.map (·.1)=l.map (·.1))(r:a7 h α (kvs.map (·.2)) (l.map (·.2))):a7 h α ((stored kvs k v).map (·.2)) ((put k p l).map (·.2)):=LR (f:=id) (λy y z=>z) V e r
section
variable{ae:bw}{w:br}{ag:aF}{K:Frag}{n:Nat}{aa:Env}
theorem Ed{h:aF}{α:Al}{a:aI}(R:RE ag h aa α ρ)(T:RS ae w ag h α σ)(ea:α[k]? =some (a,a))(hk:∀x o,h.get? x=some o→x≠a→h'.get? x=some o)
 (hs:(h'.get? a).isSome=true) (new:(X:cp aa.locals h h' α α)→RO ae w h' α a a o'):cp aa.locals h h' α α∧RS ae w ag h' α (σ.set k o'):=by
 have rR:∀m',h.Ns aa.locals m'→h'.Ns aa.locals m':=λm' e=>e.at' λo g=>hk _ o g (λz=>R.dX (z▸((mW ea).1)));have X:=z6 (L:=aa.locals) (h':=h') ea (λx o e n y y=>hk x o e n) rR;exact⟨X,T.upd ea (λx o e n y y=>hk x o e n) rR R.dX R.ns R.L0 hs hs (new X)⟩
theorem Mu{κ mj:Type}{f:mj→κ}{kvs:List (κ×au)}{l:List (mj×PV)}(e:kvs.map (·.1)=l.map (λq=>f q.1)):kvs.length=l.length:=by have:=bV su e;rwa [bB,bB]at this
theorem Yb{A:bO}{s:aE}{α:Al}{ov ix:au}{p i:PV}{o:PO}{E:au→aE→Prop}{Q:Unit→aE→Prop}(R:RE ag s.heap aa α ρ)(T:RS ae w ag s.heap α σ)(V:RV s.heap α v p)(Vo:RV s.heap α ov (.loc k))(Vi:RV s.heap α ix i)(ek:σ[k]? =some o)(e:Qd o i p=some o')
 (q:∀h' (tk:TK),cp aa.locals s.heap h' α α→RE ag h' aa α ρ→RS ae w ag h' α (σ.set k o')→Q () {s with heap:=h',toks:=tk.1,drawn:=tk.2}):aY (ba ae w) A (setItem ov ix v) Q E s:=
 Vo.iO λa b zo ea=>zo▸by
  have ro:=T.objs k _ _ _ ea ek;have fin:∀{h':aF} {tk:TK},b=a→(∀x o,s.heap.get? x=some o→x≠a→h'.get? x=some o)→(h'.get? a).isSome=true→((X:cp aa.locals s.heap h' α α)→RO ae w h' α a a o')→Q () {s with heap:=h',toks:=tk.1,drawn:=tk.2}:=λ{h' tk} z hk hs new=>by
   rw[z]at ea;have U:=Ed R T ea hk hs new;exact q h' tk U.1 (R.ext U.1) U.2
  cases o with
  |list l=>cases i with
   |int j=>
    exact Vi.iI λt zi=>zi▸gF e λhz e=>cj e λze=>gD ro.2 λvs m hl Vs=>VB hl hz.1 (oX (gV hz.2.1 (jJ.mpr hz.2.2)) (by decide)) (by rw[Vs.size];exact hz.2.1) (bG (w4 hl (·.setIfInBounds j.toNat v)) λm' iY=>
     fin (tk:=(s.toks,s.drawn)) ro.1 DO (by rw[iY];rfl) λX=>ze▸⟨rfl,_,m',iY,by rw[Array.toList_setIfInBounds];exact(Vs.ext X R.ns).set (V.ext X R.ns) _⟩)
   |_=>exact aQ e
  |aU l=>cases i with
   |int j=>
    exact Vi.iI λt zi=>zi▸gF e λhz e=>cj e λze=>cY ro.2 λkvs D e4 Vs=>wpAny_setItem_pairs (knd:=jP ae w) (k:=j) (uM ae w j _) D (λh5 D5 hs=>
     fin (tk:=(_,_)) ro.1.1 (λx o g ne=>(hs.2 x ne).trans g) (ku D5 λo es ep g y=>by rw[g];rfl) λX=>ze▸⟨⟨rfl,ro.1.2⟩,_,D5,Ms e4,Mt (V.ext X R.ns) e4 (Vs.ext X R.ns)⟩) (by rw[Mu (f:=id) e4];exact ao hz (aK rfl))
   |_=>exact aQ e
  |cZ l=>cases i with
   |str j=>
    exact Vi.iS λt zi y=>zi▸gF e λhz e=>cj e λze=>cY ro.2 λkvs D e4 Vs=>wpAny_setItem_pairs (knd:=strKind ae w) (k:=S j) (zz ae w (S j) _) D (λh5 D5 hs=>
     fin (tk:=(_,_)) ro.1.1 (λx o g ne=>(hs.2 x ne).trans g) (ku D5 λo es ep g y=>by rw[g];rfl) λX=>ze▸⟨⟨rfl,ro.1.2⟩,_,D5,LQ (f:=S) (λy y=>jz) e4,LR (f:=S) (λy y=>jz) (V.ext X R.ns) e4 (Vs.ext X R.ns)⟩) (by rw[Mu (f:=S) e4];exact ao hz (aK rfl))
   |_=>exact aQ e
  |_=>exact aQ e
theorem acf{o i:a6}{pos:Pos}{c d:CE}(h:SE ae w ag n aa (eval o aa) c)(h2:SE ae w ag n aa (eval i aa) d):ST ae w ag n aa (assign (.Subscript o i pos) aa) (gm c d):=λA s α ρ σ v p ai aq E Q ho R T V e0 q=>cy e0 λpv bj e1 e=>cy e λiv dt e2 e=>by
 refine aB (fA (h A s α ρ σ _ _ E _ ho R T e1 λov h' tk aD X T' Vo=>aB (fA (h2 A _ aD ρ bj _ _ E _ ho (R.ext X) T' e2 λix h3 gS iu Y T3 Vi=>aB (oW (aB (fA ?_)))))));cases pv with
 |loc k=>exact c4 e λo e3 e=>c4 e λo' e4 e=>cw e λz1 z2=>Yb ((R.ext X).ext Y) T3 ((V.ext X R.ns).ext Y (R.ext X).ns) (Vo.ext Y (R.ext X).ns) Vi e3 e4 λh4 mi X4 R4 T4=>wpAny_release (q _ mi iu ((X.trans Y).trans X4).st (z1▸R4) (z2▸T4))
 |_=>exact aQ e
end
noncomputable def fC(a b:Int):List PV:=(dK (b-a).toNat).map λi=> .int (a+(i:Nat))
theorem a7.adk{h:aF}{α:Al}:∀{vs:List au},vs.length=ps.length→(∀(i:Nat) (v:au),vs[i]? =some v→∃p,ps[i]? =some p∧RV h α v p)→a7 h α vs ps:=by
 induction ps with
 |nil=>
  exact λ{vs} e _=>by
   cases vs with
   |nil=>exact .nil
   |cons=>exact yV e
 |cons p ps ih=>
  exact λ{vs} e g=>by
   cases vs with
   |nil=>exact yV e
   |cons v vs=>exact .cons (aT (g 0 v rfl) λq e1 e2=>c8 e1▸e2) (ih (Nat.succ.inj e) λi v h=>g (i+1) v h)
noncomputable def vf(a:Int):Bool:=decide (-1000000000≤a∧a≤1000000000)
theorem Ld{a b:Int}(ha:vf a=true)(hb:vf b=true):JP a b 1=true∧wh a b 1=((b-a).toNat:Int)∧(b-a).toNat≤2000000000:=by
 have ha:=fQ ha;have hb:=fQ hb;have hs:wh a b 1=((b-a).toNat:Int):=by
  unfold wh;by_cases h:a<b
  ·simp[h];exact(Int.max_eq_left (Int.sub_nonneg_of_le (dS h))).symm
  ·simp[h];exact(wo (Int.sub_nonpos_of_le (lQ.mp h))).symm
 have hN:(b-a).toNat≤2000000000:=Int.toNat_le.mpr (Int.sub_le_sub hb.2 ha.1);have k:∀{x:Int},-1000000000≤x→x≤2000000000→ -2^63≤x∧x<2^63:=λh1 h2=>⟨oY (by decide) h1,i9 h2 (by decide)⟩;have kb:=k hb.1 (oY hb.2 (by decide));refine⟨?_,hs,hN⟩;unfold JP Builtin.Range.rangeFitsLong;rw[hs,aP (by decide)];simp only[ia,ja,uw];exact⟨⟨⟨⟨k ha.1 (oY ha.2 (by decide)),kb⟩,by decide⟩,k (oY (by decide) (sa _)) (jJ.mpr hN)⟩,.inr (by rw[Int.sub_self,Int.add_zero];exact kb)⟩
theorem VE{ae:bw}{w:br}{A:bO}(hh:A.handled=none)(I:aI)(a:Int)(n m:Nat)(old:Array au):
 Walks ae w A I [I] [I] (m+n) (λi v=>if i<m then old[i]? =some v else∃t,v= .int (a+((i-m:Nat):Int)) t) (λi h=>m≤i∧Dt h I (a+((i-m:Nat):Int)) ((n:Int)-((i-m:Nat):Int)) 1)where
 sub:=λz hb=>hb
 frame:=λz z z st hk=>⟨st.1,hk I (.head _) _ st.2⟩
 item:=λi s Q E hi st hQ=>by
  refine wpAny_pyNext_range_item st.2 (Int.sub_pos_of_lt (gg.mpr (TY st.1 hi))) λh' aeE Ia=> ?_;refine hQ _ h' _ (by rw[aS (eP.mpr st.1)];exact⟨_,rfl⟩) ⟨Nat.le_succ_of_le st.1,?_⟩ λb o hb e=>Ia.extBut b o (λh=>hb (by simp[h])) e;rw[(Nat.succ_sub st.1)];rw[(by rw[Int.natCast_succ,Int.add_assoc]:a+(((i-m)+1:Nat):Int)=a+((i-m:Nat):Int)+1),(by rw[Int.natCast_succ,Int.sub_sub]:(n:Int)-(((i-m)+1:Nat):Int)=(n:Int)-((i-m:Nat):Int)-1)];exact aeE
 done:=λs Q E st hQ=>wpAny_pyNext_range_end hh st.2 (by rw[um];exact Int.le_of_eq (Int.sub_self _)) λh' BC=>hQ h' s.toks λb o hb e=>BC b o (λh=>hb (by simp[h])) e
 self:=λz z z z st hQ=>wpAny_pyIter_rangeiter st.2 hQ
noncomputable def Ib(f:PV→PV→ah→Option (PV×ah)):List PV→ah→Option (PV×ah)
 | [p,q],σ=>f p q σ
 |_,_=>none
noncomputable def aeF(f:PV→PV→ah→Option (PV×ah))(f2:PV→PV→PV→ah→Option (PV×ah)):List PV→ah→Option (PV×ah)
 | [p,q],σ=>f p q σ
 | [p,q,r],σ=>f2 p q r σ
 |_,_=>none
noncomputable def tD:PO→Option (List PV)
 | .list l=>some l
 |_=>none
noncomputable def BD:PO→Option (List (Int×PV))
 | .aU l=>some l
 |_=>none
def aeG(p q:PV)(σ:ah):Option (PV×ah):=match p with
 | .loc k=>match q with
  | .d7 a b=>((σ[k]?).bind tD).bind λl=>if vf a=true∧vf b=true∧l.length+(b-a).toNat≤1000000 then some (.none,σ.set k (.list (l++fC a b)))else none
  |_=>none
 |_=>none
def Bf:List PV→ah→Option (PV×ah):=Ib aeG
section
variable{ae:bw}{w:br}{ag:aF}{K:Frag}{n:Nat}{aa:Env}{F:au}{c:Cx}{m:Me}{σ:ah}
theorem eh.of2{f:PV→PV→ah→Option (PV×ah)}(h:∀c m σ v u p q,Hy ae w ag n c m σ→Vm m v p→Vm m u q→bk ae w ag c m (call F [v,u]) (f p q σ) Vm):eh ae w ag n F (Ib f):= .of λc m σ vs args H V=>by
 cases V with
 |nil=>exact bk.no
 |cons V Vs=>
  cases Vs with
  |nil=>exact bk.no
  |cons U Us=>
   cases Us with
   |nil=>exact h _ _ _ _ _ _ _ H V U
   |cons _ _=>exact bk.no
theorem wV{l:List PV}(e:(σ[k]?).bind tD=some l):σ[k]? =some (.list l):=c4 e λo e1 e2=>by
 cases o with
 |list l'=>exact cj e2 λz=>z▸e1
 |_=>exact aQ e2
theorem Mv{l:List (Int×PV)}(e:(σ[k]?).bind BD=some l):σ[k]? =some (.aU l):=c4 e λo e1 e2=>by
 cases o with
 |aU l'=>exact cj e2 λz=>z▸e1
 |_=>exact aQ e2
theorem acg{h:aF}{α:Al}{σ:ah}{L a:aI}(N:∃m,h.Ns L m)(hL:L∉own α)(h0:ag.get? L=none)(T:RS ae w ag h α σ)(ea:α[k]? =some (a,a))(hk:∀x o,h.get? x=some o→x≠a→h'.get? x=some o)
 (hs:(h'.get? a).isSome=true) (new:(X:cp L h h' α α)→RO ae w h' α a a o'):cp L h h' α α∧RS ae w ag h' α (σ.set k o'):=by
 have rR:∀m',h.Ns L m'→h'.Ns L m':=λm' e=>e.at' λo g=>hk _ o g (λz=>hL (z▸((mW ea).1)));have X:=z6 (L:=L) (h':=h') ea (λx o e n y y=>hk x o e n) rR;exact⟨X,T.upd ea (λx o e n y y=>hk x o e n) rR hL N h0 hs hs (new X)⟩
theorem bk.put{r:PV}{a:aI}(H:Hy ae w ag n c m σ)(ea:m.α[k]? =some (a,a))(V:∀h':aF,RV h' m.α v r)(h:∀Q:au→aE→Prop,(∀h' (tk:TK),(∀x o,m.h.get? x=some o→x≠a→h'.get? x=some o)→(h'.get? a).isSome=true→(cp c.L m.h h' m.α m.α→RO ae w h' m.α a a o')→Q v (c.at ⟨h',tk,m.α⟩))→aY (ba ae w) c.A t Q c.E (c.at m)):bk ae w ag c m t (some (r,σ.set k o')) Vm:=
 λz z e z q=>cw e λe1 e2=>h _ λh' tk hk hs new=>have U:=acg H.ns H.low (pC H.size) H.st ea hk hs new;q ⟨h',tk,m.α⟩ v U.1 (e2▸U.2) (e1▸V h')
noncomputable abbrev N8(ws:Array au)(a:Int):Nat→au→Prop:=λi v=>if i<ws.size then ws[i]? =some v else∃t,v= .int (a+((i-ws.size:Nat):Int)) t
theorem WR{h:aF}{α:Al}{ws acc:Array au}{l:List PV}{a b:Int}(Vs:a7 h α ws.toList l)(it:ItemsOf (N8 ws a) acc (ws.size+(b-a).toNat)):a7 h α acc.toList (l++fC a b):=by
 have bJ:=Vs.size;refine a7.adk (by rw[gw,it.1,oO,fC,bB,q9,bJ]) λi v g=> ?_;have g':acc[i]? =some v:=gI.symm.trans g;have P:=it.2 i v g';by_cases dD:i<ws.size
 ·exact aT (Vs.get' (gI.trans (Eq.mp (aP dD) P))) λp e1 e3=>⟨p,(jn (bJ▸dD)).trans e1,e3⟩
 ·refine bG (Eq.mp (aS dD) P) λt z=>⟨.int (a+((i-ws.size:Nat):Int)),?_,z▸ .int _ t⟩;rw[mJ (bJ▸eP.mp dD),eM,List.getElem?_range (TY (bJ▸eP.mp dD) (bJ▸(it.1▸(TR.mp g').1))),←bJ];rfl
theorem V7{A:bO}{s:aE}{E:au→aE→Prop}{x r:aI}{a b:Int}{t u v:Tok}{ws:Array au}{m N:Nat}(hh:A.handled=none)(hr:vc s.heap r a b 1 t u v)(s1:JP a b 1=true)(s2:wh a b 1=(N:Int))(hl:IsL s.heap x ws m)(hz:ws.size+N≤1000000)
 (q:∀h' tk iP c',(∀z o,z≠x→s.heap.get? z=some o→h'.get? z=some o)→IsL h' x iP c'→ItemsOf (N8 ws a) iP (ws.size+N)→Q .none {s with heap:=h',toks:=tk}):aY (ba ae w) A (call (.builtin "list.extend") [.ref x,.ref r]) Q E s:=by
 have hxr:x≠r:=λz=>by have iY:_=_:=hl;rw[z,hr]at iY;simp at iY
 have Ic:x≠s.heap.objs.size:=gK (dy hl);have d8:ws.size≤sM:=by rw[qe];exact ao (ao (bR _ _) hz) (aK rfl)
 have key:∀(h:aF) (c₁ tk:Nat),Dt h s.heap.objs.size (a+(((ws.size:Nat)-ws.size:Nat):Int)) ((N:Int)-((ws.size-ws.size:Nat):Int)) 1→(∀z o,z≠x→s.heap.get? z=some o→h.get? z=some o)→
  IsL h x ws c₁→jQ (ba ae w) A (.builtin "list.extend.loop" ⟨[.ref x,.ref s.heap.objs.size,.none],[]⟩) (wants Q E) {s with heap:=h,toks:=tk}:=λh c₁ tk hit hk pD=>by
  refine codeAny_extend_loopS ((VE (ae:=ae) (w:=w) (A:=A.in1) hh s.heap.objs.size a N ws.size ws).toS) (by rw[qe];exact ao hz (aK rfl)) x (λhm=>Ic (fz.mp hm)) .none N ws.size _ ws c₁ (um ..) (bR _ _) ⟨cH _,hit⟩ pD ⟨rfl,λj v hj=>Eq.mpr (aP (TR.mp hj).1) hj⟩ λs' iP c' hm mq tE=> ?_;rw[Moved.eq_with hm];exact q s'.heap s'.toks iP c' (λz o hb e=>hm.heap z o (λnq=>(cG.mp nq).elim hb λnq=>bP (dy e) (by rw[fz.mp nq];exact gJ _)) (hk z o hb e)) mq tE
 refine sC (yB Ua.plain PySem.F.entry_list_extend (Ua.check _ _ _ _ _ _ _ _ ⟨_,hl,rfl⟩ (PySem.F.args_list_extend_2 _ _) ?_));show aY _ _ (TP (.ref x) (.ref r) .none) _ _ s;refine aB (sq (T:="range") ⟨_,hr,rfl⟩ ?_);have h1:Ce (.ref x) (.ref r)=false:=by simp[Ce,hxr]
 refine kG (λz=>bP z (by rw[h1];decide)) λy=> ?_;refine aB (wpAny_pyIter_range hr s1 (aB (fA (wpAny_hint_range (n:=N) (cR _ hr) s2 (by lia) ?_))));have N9:Dt (s.heap.push {cls:= .type "range_iterator",data:= .fields #[je a,je (wh a b 1),je 1]}) s.heap.objs.size (a+((ws.size-ws.size:Nat):Int)) ((N:Int)-((ws.size-ws.size:Nat):Int)) 1:=by
  rw[s2];simpa using fP _ rfl
 have pD:=cR {cls:= .type "range_iterator",data:= .fields #[je a,je (wh a b 1),je 1]} hl;refine kG (λy=> ?_) λy=>a4 ⟨rk Cd _,key _ m _ N9 (λz o y e=>cR _ e) pD⟩;refine aB (rt (aB (m:=updateSeq x (·.push .none)>>=λy=>updateSeq x (·.pop)) (aB (yW pD rfl ?_ d8 (by rw[CW];exact bH d8 1)))));refine bG (w4 pD (·.push lh)) λm₂ vi=>yW vi rfl ?_ (by rw[CW];exact ao (ao (bH (bR _ _) 1) (bH hz 1)) (aK rfl)) (by rw[Array.size_pop,CW];exact ao (uN _ _) (bH d8 1));refine bG (w4 vi (·.pop)) λaeH tf=>a4 ⟨rk Cd _,key _ aeH _ ((r8 _ _ Ic).trans ((r8 _ _ Ic).trans N9)) (λz o hb e=>(r8 _ _ (sW hb)).trans ((r8 _ _ (sW hb)).trans (cR _ e))) ((by rw[Array.pop_push]at tf;exact tf))⟩
theorem ach:eh ae w ag n (.builtin "list.extend") Bf:= .of2 λc m σ v u p q H V U=>by
 cases p with
 |loc k=>cases q with
  |d7 a b=>
   exact RV.eO V λx y ea=>RV.eR U λr t1 t2 t3 hr hnr=>bk.pb λl e=>bk.if1 λhc=>gD (H.st.objs _ _ _ _ ea (wV e)).2 λws mm hl Vs=>have sm:=Ld hc.1 hc.2.1;by
    rw[((H.st.objs _ _ _ _ ea (wV e)).1)]at ea;exact bk.put H ea (λt=> .none) λQ q=>V7 H.room.1 hr sm.1 sm.2.1 hl (by rw[Vs.size];exact hc.2.2) λh' tk iP c' hk hS it=>q h' (tk,_) (λz o g ne=>hk z o ne g) (by rw[hS];rfl) λX=>⟨rfl,iP,c',hS,WR (Vs.ext X H.ns) it⟩
  |_=>exact bk.no
 |_=>exact bk.no
end
def aeI(p q:PV)(σ:ah):Option (PV×ah):=match p with
 | .loc k=>((σ[k]?).bind tD).bind λl=>if l.length≤1000000 then some (.none,σ.set k (.list (l++ [q])))else none
 |_=>none
def oB:List PV→ah→Option (PV×ah):=Ib aeI
def Hi(p q d:PV)(σ:ah):Option (PV×ah):=match p with
 | .loc k=>match q with
  | .int i=>((σ[k]?).bind BD).bind λl=>some ((l.lookup i).getD d,σ)
  |_=>none
 |_=>none
def pP:List PV→ah→Option (PV×ah):=aeF (λp q=>Hi p q .none) Hi
theorem aci{l:List PV}{p:PV}(h:σ[k]? =some (.list l))(hz:l.length≤1000000):oB [.loc k,p] σ=some (.none,σ.set k (.list (l++ [p]))):=by
 show((σ[k]?).bind tD).bind _=_;rw[h];exact aP hz
theorem aao{l:List (Int×PV)}{i:Int}(h:σ[k]? =some (.aU l)):pP [.loc k,.int i] σ=some ((l.lookup i).getD .none,σ):=by
 show((σ[k]?).bind BD).bind _=_;rw[h];rfl
theorem Nh{l:List (Int×PV)}{i:Int}{d:PV}(h:σ[k]? =some (.aU l)):pP [.loc k,.int i,d] σ=some ((l.lookup i).getD d,σ):=by
 show((σ[k]?).bind BD).bind _=_;rw[h];rfl
noncomputable def tyO(T:String):PO→Bool
 | .list _=>T=="list"
 | .aU _=>T=="dict"
 | .cZ _=>T=="dict"
 |_=>false
def nr(T:String)(σ:ah):PV→Bool
 | .loc k=>(σ[k]?).elim false (tyO T)
 |_=>false
def jF(o:CE)(T:String)(g:List PV→ah→Option (PV×ah))(cs:List CE):CE:=λρ σ=>(o ρ σ).bind λr=>if nr T r.2 r.1=true then(eA cs ρ r.2).bind λq=>g (r.1::q.1) q.2 else none
noncomputable def lq(c:CE):CS:=λρ σ=>(c ρ σ).bind λr=>some (.next,ρ,r.2)
section
variable{ae:bw}{w:br}{ag:aF}{K:Frag}{n:Nat}{aa:Env}
theorem acj:eh ae w ag n (.builtin "list.append") oB:= .of2 λc m σ v u p q H V U=>by
 cases p with
 |loc k=>
  exact RV.eO V λx y ea=>bk.pb λl e=>bk.if1 λhc=>gD (H.st.objs _ _ _ _ ea (wV e)).2 λws mm hl Vs=>by
   rw[((H.st.objs _ _ _ _ ea (wV e)).1)]at ea;exact bk.put H ea (λz=> .none) λQ q=>Lr hl (by rw[Vs.size];exact ao hc (aK rfl)) (bG (w4 hl (·.push u)) λm' iY=>q (m.h.update x (nW (·.push u))) m.tk DO (by rw[iY];rfl) λX=>⟨rfl,_,m',iY,by
    rw[J0];exact(Vs.ext X H.ns).append (.cons (U.ext X H.ns) .nil)⟩)
 |_=>exact bk.no
theorem WS{h:aF}{α:Al}{k:Int}{l:List (Int×PV)}:∀{kvs:List (Int×au)},kvs.map (·.1)=l.map (·.1)→a7 h α (kvs.map (·.2)) (l.map (·.2))→∀{d:au} {q:PV},RV h α d q→RV h α ((qo kvs k).getD d) ((l.lookup k).getD q):=by
 induction l with
 |nil=>
  exact λ{kvs} e _ {_ _} D=>by
   cases kvs with
   |nil=>exact D
   |cons=>exact rN e.symm
 |cons q l ih=>
  exact λ{kvs} e r {d qq} D=>by
   cases kvs with
   |nil=>exact rN e
   |cons a kvs=>
    have e1:=nS e;rw[KN,ke];refine r.iC λu us z a1 b1=> ?_;have z:=nS z;by_cases hk:k=q.1
    ·rw[aP ((show a.1=q.1 from e1.1).trans hk.symm),eF.mpr hk];exact(show u=a.2 from z.1.symm)▸a1
    ·rw[aS λw=>hk (w.symm.trans (show a.1=q.1 from e1.1)),kc.mpr hk];exact ih e1.2 (z.2▸b1) D
theorem Mw{c:Cx}{m:Me}{p d:PV}{args:List au}(H:Hy ae w ag n c m σ)(V:Vm m v p)(U:Vm m u q){dv:au}(D:Vm m dv d)
 (h:∀(x:aI) (i:Int) (t:Tok) (kvs:List (Int×au)) (Q:au→aE→Prop),v= .ref x→u= .int i t→m.h.DictOf (jP ae w) x kvs→(x==jt)=false→(∀tk:TK,Q ((qo kvs i).getD dv) (c.at ⟨m.h,tk,m.α⟩))→aY (ba ae w) c.A (call (.builtin "dict.get") args) Q c.E (c.at m)):
 bk ae w ag c m (call (.builtin "dict.get") args) (Hi p q d σ) Vm:=by
 cases p with
 |loc k=>cases q with
  |int i=>
   exact V.iO λx y zv ea=>U.iI λt zu=>bk.pb λl e=>cY (H.st.objs _ _ _ _ ea (Mv e)).2 λkvs D' e4 Vs=>bk.same H λQ q=>h x i t kvs Q zv zu D' (H.st.objs _ _ _ _ ea (Mv e)).1.2 (λtk=>q _ tk (WS e4 Vs D))
  |_=>exact bk.no
 |_=>exact bk.no
theorem ack:eh ae w ag n (.builtin "dict.get") pP:= .of λc m σ vs args H V=>by
 cases V with
 |nil=>exact bk.no
 |cons V Vs=>cases Vs with
  |nil=>exact bk.no
  |cons U Us=>cases Us with
   |nil=>
    exact Mw H V U .none λx i t kvs Q zv zu D hd q=>zv▸zu▸sC (yB Cs.plain Uo (Cs.check _ _ _ _ _ _ _ _ D.typeIs (PySem.F.args_dict_get_2 _ _) (meets_dict_get (jP ae w) x (uM ae w i t) hd c.A (wants Q c.E) (c.at m) ⟨_,D.mapOf,q (_,_)⟩)))
   |cons W Ws=>cases Ws with
    |nil=>
     exact Mw H V U W λx i t kvs Q zv zu D hd q=>zv▸zu▸sC (yB Cs.plain Uo (Cs.check _ _ _ _ _ _ _ _ D.typeIs (PySem.F.args_dict_get_3 _ _ _) (meets_dict_get_default (jP ae w) x (uM ae w i t) hd _ c.A (wants Q c.E) (c.at m) ⟨_,D.mapOf,q (_,_)⟩)))
    |cons=>exact bk.no
theorem adl{T:String}{s:aE}{α:Al}{p:PV}(R:RS ae w ag s.heap α σ)(V:RV s.heap α v p)(e:nr T σ p=true):s.TypeIs v T∧∀a,v= .ref a→∃ob,s.heap.get? a=some ob∧ob.dict=none:=by
 cases p with
 |loc k=>
  refine V.iO λa b z ea=>z▸ ?_;unfold nr at e;dsimp only at e;cases eo:σ[k]? with
  |none=>rw[eo]at e;exact cL e
  |some o=>
   rw[eo]at e;have r:=R.objs _ _ _ _ ea eo;cases o with
   |list l=>exact gD r.2 λws m hl y=>eF.mp e▸⟨⟨_,hl,rfl⟩,λa z=>qd z▸⟨_,hl,rfl⟩⟩
   |aU l=>exact aT r.2 λkvs D y=>eF.mp e▸⟨D.typeIs,D.mapOf.noDict⟩
   |cZ l=>exact aT r.2 λkvs D y=>eF.mp e▸⟨D.typeIs,D.mapOf.noDict⟩
   |_=>exact cL e
 |_=>exact cL e
theorem EV{o:a6}{x:String}{T id:String}{apos pos:Pos}{c:CE}{g:List PV→ah→Option (PV×ah)}(pa:PlainAttrs T)(slot:Slot T (S x) id)(hty:typeOf (.builtin id)=pure (.type "method_descriptor"))
 (h:SE ae w ag n aa (eval o aa) c) (hp:es.all notStar=true) (hf:eh ae w ag n (.builtin id) g) (ha:SL ae w ag n aa (spliced (g9 pos (fW es aa))) (eA cs))
 (adm:rj o (S x) aa (eval o aa)=eval o aa)
 (aeJ:((g9 pos (fW es aa)).all (λx=> !x.1)&&(backToKw pos (Ds [] aa)).all (λx=>x.1.isSome)&&decide (es.length+([]:List Keyword).length+(if([]:List Keyword).isEmpty then 0 else 1)<30))=true)
 (adn:(apos.endLine==pos.line)=true):SE ae w ag n aa (eval (.Call (.Attribute o (S x) apos) es [] pos) aa) (jF c T g cs):=λA s α ρ σ pv aq E Q ho R T0 e0 q=>cy e0 λv bj e1 e=>gF e λht e=>cy e λargs dt e3 e4=>
 wpAny_Call_method_lateS adm aeJ adn (h A s α ρ σ _ _ E _ ho R T0 e1 λv h' tk aD X T' V=>cM (adl (s:={s with heap:=h',toks:=tk.1,drawn:=tk.2}) T' V ht) λt1 t2=>have R':=R.ext X
  ⟨T,id,pa,slot,hty,t1,t2,o6 (P:=λh=>∀b o,ag.get? b=some o→h.get? b=some o) (by rw[lO hp];rfl) oS (nV hp (ha A _ aD ρ _ args dt E _ ho R' T' e3 λvs dI c6 d4 Y du Vs=>⟨du.base,have eB:=R'.ext Y
  hf A _ d4 dt aa.locals (v::vs) _ pv aq E Q ho eB.ns eB.dX eB.jg du (.cons (V.ext Y R'.ns) Vs) e4 λv h3 gS iu Z T3 V3=>q v h3 gS iu ((X.trans Y).trans Z) T3 V3⟩))⟩)
theorem aap{e:a6}{pos:Pos}{c:CE}(h:SE ae w ag n aa (eval e aa) c)(hi:interactive aa=false)(hs:uO e none pos.line aa=pure false):SS ae w ag n aa (exec (.Expr e pos) aa) (lq c):=by
 intro A s α ρ σ fl ai aq E Q ho R T e0 q;(refine cy e0 λv bj e1 e2=> ?_;clear e0);(refine iK e2 λaL aM eG=> ?_;clear e2;subst aL aM eG);exact wpAny_Expr_any (h A s α ρ σ v _ E _ ho R T e1 λv h' tk aD X T' V=>q _ h' tk aD X.st (R.ext X) T' .next) hi hs
end
noncomputable def ny:a6→Bool
 | .Tuple .. =>true
 |_=>false
noncomputable def gd(z:Bool)(k:Nat)(σ:ah):Bool:= !z||(match σ[k]? with|some .c7=>true|_=>false)
structure It(ae:bw)(w:br)(ag:aF)(A:bO)(I:aI)(wr fp:List aI)(G:ah→Prop)(Tg:Bool)(St:List PV→aF→Al→Prop):Prop where
 there:∀l h α,St l h α→∀b∈fp,b∉own α∧∃o,h.get? b=some o
 xf:∀l h α,St l h α→∀b∈wr,∃o,h.get? b=some o
 move:∀l h h' α aD σ,St l h α→(∀v p,RV h α v p→RV h' aD v p)→(∀b∈fp,∀o,h.get? b=some o→h'.get? b=some o)→(∀b∈fp,b∉own aD)→(∃β,aD=α++β)→RS ae w ag h' aD σ→G σ→St l h' aD
 item:∀p l (s:aE) α σ (E:au→aE→Prop) (Q:au→aE→Prop) (cE:a6),(Tg=true→ny cE=true)→St (p::l) s.heap α→RS ae w ag s.heap α σ→G σ→
  (∀v h' (tk:TK),RV h' α v p→St l h' α→RS ae w ag h' α σ→(∀a o,s.heap.get? a=some o→a∉wr→h'.get? a=some o)→(∀v p,RV s.heap α v p→RV h' α v p)→Q v {s with heap:=h',toks:=tk.1,drawn:=tk.2})→
  aY (ba ae w) A (ik (.ref I)) (λr cV=>match r with|none=>False|some v=>∀E',aY (ba ae w) A (mQ cE (.ref I) v) (λz fF=>Q v fF) E' cV) E s
 done:∀(s:aE) α σ (E:au→aE→Prop) (Q:Option au→aE→Prop),St [] s.heap α→RS ae w ag s.heap α σ→G σ→
  (∀h' (tk:TK),RS ae w ag h' α σ→(∀a o,s.heap.get? a=some o→a∉wr→h'.get? a=some o)→(∀v p,RV s.heap α v p→RV h' α v p)→Q none {s with heap:=h',toks:=tk.1,drawn:=tk.2})→aY (ba ae w) A (ik (.ref I)) Q E s
 self:∀l (s:aE) α (E:au→aE→Prop) (Q:au→aE→Prop),St l s.heap α→Q (.ref I) s→aY (ba ae w) A (ng (.ref I)) Q E s
abbrev CI:=aO→ah→Option (List PV×ah)
def SI(ae:bw)(w:br)(ag:aF)(n:Nat)(aa:Env)(z:Bool)(t:Sem au)(c:CI):Prop:=
 ∀(A:bO) (s:aE) (α:Al) (ρ:aO) (σ:ah) (l:List PV) (aq:ah) (E:au→aE→Prop) (Q:au→aE→Prop),fc n A→RE ag s.heap aa α ρ→RS ae w ag s.heap α σ→c ρ σ=some (l,aq)→
  (∀I h' (tk:TK) aD wr fp St,cp aa.locals s.heap h' α aD→RS ae w ag h' aD aq→It ae w ag A I wr fp (λσ=>gd z (aq.length-1) σ=true) z St→(∀b,b∈wr∨b∈fp→s.heap.get? b=none)→gd z (aq.length-1) aq=true→St l h' aD→Q (.ref I) {s with heap:=h',toks:=tk.1,drawn:=tk.2})→
  aY (ba ae w) A t (λx cV=>aY (ba ae w) A (ng x) Q E cV) E s
noncomputable def eU(z:Bool)(k:Nat)(bF:CT)(body:CS):List PV→CS
 | [],ρ,σ=>some (.next,ρ,σ)
 |p::l,ρ,σ=>(bF p ρ σ).bind λr=>(body r.1 r.2).bind λq=>if gd z k q.2.2=true then match q.1 with
  | .next=>eU z k bF body l q.2.1 q.2.2
  | .cont=>eU z k bF body l q.2.1 q.2.2
  | .brk=>some (.next,q.2)
  | .ret v=>some (.ret v,q.2)
  else none
variable{I:aI}{cE dY:a6}{bF:CT}{it:CI}
section
variable{ae:bw}{w:br}{ag:aF}{K:Frag}{n:Nat}{aa:Env}
theorem RE.th{h:aF}{α:Al}{wr:List aI}(R:RE ag h aa α ρ)(k:∀a o,h.get? a=some o→a∉wr→h'.get? a=some o)(rv:∀v p,RV h α v p→RV h' α v p)(hL:aa.locals∉wr)(hc:∀x c,aa.cells.lookup x=some c→c∉wr):RE ag h' aa α ρ where
 fn:=R.fn
 gl:=R.gl
 bu:=R.bu
 loc:=by
  refine aT R.loc λm h1 h2=> ?_;refine⟨m,h1.at' λo e=>k _ o e hL,λx v kx e=> ?_⟩;refine aT (h2 x v kx e) λval e1 e2=> ?_;exact⟨val,e1,rv _ _ e2⟩
 lD x kx:=by
  obtain⟨c,h1,h2,h3,h4,vo,⟨o,h5,H6⟩,h6⟩:=R.lD x kx;refine⟨c,h1,h2,h3,h4,vo,⟨o,k c o h5 (hc _ _ h1),H6⟩,λv e=> ?_⟩;refine aT (h6 v e) λval e1 e2=> ?_;exact⟨val,e1,rv _ _ e2⟩
 apart:=R.apart
 dX:=R.dX
 jg:=R.jg
theorem dN.th{H h:aF}{lr α:Al}{wr:List aI}(X:dN aa H h lr α)(k:∀a o,h.get? a=some o→a∉wr→h'.get? a=some o)(f:∀b∈wr,H.get? b=none):dN aa H h' lr α where
 keep a o e n l c:=k a o (X.keep a o e n l c) λm=>by rw[f a m]at e;exact aQ e
 pre:=X.pre
 fresh:=X.fresh
noncomputable abbrev atS(s:aE)(m:Me):aE:={s with heap:=m.h,toks:=m.tk.1,drawn:=m.tk.2}
theorem RE.there{h:aF}{α:Al}(R:RE ag h aa α ρ):∃o,h.get? aa.locals=some o:=R.ns.elim λm N=>ku N λo z z e z=>⟨o,e⟩
theorem RE.Eu{h:aF}{α:Al}(R:RE ag h aa α ρ)(C:hF aa){x:Str}{c:aI}(e:aa.cells.lookup x=some c):∃o,h.get? c=some o:=(R.z9 C e).2.elim λz h=>h.elim λo h=>⟨o,h.1⟩
structure Ie(ae:bw)(w:br)(ag H:aF)(aa:Env)(lr:Al)(z:Bool)(k:Nat)(St:List PV→aF→Al→Prop)(bF:CT)(cb:CS)(r:Fl×aO×ah)(l:List PV)(m:Me)(ρ:aO)(σ:ah):Prop where
 X:dN aa H m.h lr m.α
 R:RE ag m.h aa m.α ρ
 T:RS ae w ag m.h m.α σ
 g:gd z k σ=true
 st:St l m.h m.α
 e:eU z k bF cb l ρ σ=some r
theorem It.step{A:bO}{wr fp:List aI}{G:ah→Prop}{z:Bool}{St:List PV→aF→Al→Prop}(C:hF aa)(J:It ae w ag A I wr fp G z St)(hLf:aa.locals∉fp)(hcf:∀x c,aa.cells.lookup x=some c→c∉fp){h:aF}{α:Al}{l:List PV}(st:St l h α)(X:dN aa h h' α aD)(R:RE ag h aa α ρ)(T:RS ae w ag h' aD σ)(g:G σ):St l h' aD:=
 J.move l h h' α aD σ st (λv p V=>V.st X R C) (λb m o e=>X.keep b o e (J.there l h α st b m).1 (λz=>hLf (z▸m)) λx z=>bP m (hcf x b z)) (λb m=>(J.there l h α st b m).2.elim λo n2=>X.mZ n2 (J.there l h α st b m).1) X.pre T g
theorem Mx(C:hF aa){z:Bool}(ht:ST ae w ag n aa (assign cE aa) bF)(hb:SS ae w ag n aa (execs body aa) cb)
 {A:bO} {wr fp:List aI} {St:List PV→aF→Al→Prop} (ho:fc n A) (J:It ae w ag A I wr fp (λσ=>gd z k σ=true) z St) (kC:z=true→ny cE=true) {H:aF} {lr:Al} {a9:aO} (R₀:RE ag H aa lr a9) (hf:∀b,b∈wr∨b∈fp→H.get? b=none)
 {l:List PV} {s:aE} {m:Me} {r:Fl×aO×ah} {Rr:Result→aE→Prop} (L:Ie ae w ag H aa lr z k St bF cb r l m ρ σ)
 (q:∀f m',dN aa H m'.h lr m'.α→RE ag m'.h aa m'.α r.2.1→RS ae w ag m'.h m'.α r.2.2→vN m'.h m'.α f r.1→Rr (.ok f) (atS s m')):
 jQ (ba ae w) A (.forLoop cE (.ref I) body [] aa) Rr (atS s m):=by
 have out:∀{b},(∃o,H.get? b=some o)→b∉wr∧b∉fp:=λh=>h.elim λo e=>⟨λm=>aQ ((hf _ (.inl m)).symm.trans e),λm=>aQ ((hf _ (.inr m)).symm.trans e)⟩;refine codeAny_forLoop_any (λj cV=>∃l m ρ σ,j=l.length∧cV=atS s m∧Ie ae w ag H aa lr z k St bF cb r l m ρ σ) (λj cV hj=>Ba hj λl m ρ σ zj zs L=> ?_) l.length ⟨l,m,ρ,σ,rfl,rfl,L⟩;rw[zs,zj];have kp:∀{h':aF},(∀a o,m.h.get? a=some o→a∉wr→h'.get? a=some o)→(∀v p,RV m.h m.α v p→RV h' m.α v p)→RE ag h' aa m.α ρ∧dN aa H h' lr m.α:=λk' rv=>⟨L.R.th k' rv (out R₀.there).1 (λx c e=>(out (R₀.Eu C (x:=x) (c:=c) e)).1),L.X.th k' λb mm=>hf b (.inl mm)⟩;cases l with
 |nil=>exact cj L.e λzr=>J.done _ m.α _ _ _ L.st L.T L.g λh' c6 T' k' rv=>have K:=kp k' rv;CR (q .next ⟨h',c6,m.α⟩ K.2 (zr▸K.1) (zr▸T') (zr▸ .next))
 |cons p l=>
  refine cy L.e λaA bj e1 e2=>vL e2 λQe bL dt e3 e4=>gF e4 λg2 e4=> ?_;refine fD (J.item p l _ m.α σ _ (λv fF=>∃m',fF=atS s m'∧RV m'.h m.α v p∧St l m'.h m.α∧RS ae w ag m'.h m.α σ∧RE ag m'.h aa m.α ρ∧dN aa H m'.h lr m.α) cE kC L.st L.T L.g
   λv h' c6 V t9 T' k' rv=>have K:=kp k' rv;⟨⟨h',c6,m.α⟩,rfl,V,t9,T',K.1,K.2⟩) (λov cV h1=> ?_) λy y x=>x
  cases ov with
  |none=>exact h1.elim
  |some v=>
   refine fD (h1 _) (λy fF h2=>xD h2 λm' zs V t9 T' R' X'=> ?_) λy y x=>x;rw[zs];refine ht A _ m.α ρ σ v p aA bj _ _ ho R' T' V e1 λh3 gS iu X3 R3 T3=>hb A _ iu aA bj Qe bL dt _ _ ho R3 T3 e3 λf h4 mi hW X4 R4 T4 F=> ?_;have RW:dN aa m'.h h4 m.α hW:=X3.trans X4 (R4.cn C);have XX:=X'.trans RW (R4.cn C);have go:eU z k bF cb l bL dt=some r→∃i,i<(p::l).length∧∃l m ρ σ,i=l.length∧({s with heap:=h4,toks:=mi.1,drawn:=mi.2}:aE)=atS s m∧Ie ae w ag H aa lr z k St bF cb r l m ρ σ:=λe=>⟨l.length,qb _,l,⟨h4,mi,hW⟩,bL,dt,rfl,rfl,XX,R4,T4,g2,J.step C (out R₀.there).2 (λx c e=>(out (R₀.Eu C (x:=x) (c:=c) e)).2) t9 RW R' T4 g2,e⟩;cases F with
   |next=>exact go e4
   |cont=>exact go e4
   |brk=>exact cj e4 λzr=>q .next ⟨h4,mi,hW⟩ XX (zr▸R4) (zr▸T4) (zr▸ .next)
   |ret V=>exact cj e4 λzr=>q _ ⟨h4,mi,hW⟩ XX (zr▸R4) (zr▸T4) (zr▸ .ret V)
noncomputable def ft(it:CI)(bF:CT)(body:CS):CS:=λρ σ=>(it ρ σ).bind λr=>eU false 0 bF body r.1 ρ r.2
theorem acm(C:hF aa){pos:Pos}(hi:SI ae w ag n aa false (eval dY aa) it)(ht:ST ae w ag n aa (assign cE aa) bF)(hb:SS ae w ag n aa (execs body aa) cb)
 (hs:∀x,qa dY aa x=pure x):SS ae w ag n aa (exec (.For cE dY body [] pos) aa) (ft it bF cb):=λA s α ρ σ fl ai aq E Q ho R T e0 q=>cy e0 λl bj e1 e2=>
 wpAny_For (hi A s α ρ σ l bj E _ ho R T e1 λI h' tk aD wr fp St X T' J hf g st=>
  Mx C ht hb ho (z:=false) (k:=0) J (λh=>cL h) R hf (s:=s) (m:=⟨h',tk,aD⟩) ⟨X.st,R.ext X,T',rfl,st,e2⟩ λf m2 X2 R2 T2 F=>q f m2.h m2.tk m2.α X2 R2 T2 F) hs
end
section
variable{ae:bw}{w:br}{ag:aF}{K:Frag}{n:Nat}{aa:Env}
theorem WT{A:bO}{s:aE}{c:String}{E:au→aE→Prop}{Q:Unit→aE→Prop}(ho:s.heap.get? I=some o)(hc:o.cls= .type c)
 (hn: ["enumerate","zip","dict_itemiterator","dict_reverseitemiterator","odict_iterator","itertools.zip_longest","itertools.pairwise"].contains c=false) (q:Q () s):aY (ba ae w) A (mQ cE (.ref I) v) Q E s:=by
 have core:aY (ba ae w) A (mQ (.Tuple [] 0 default) (.ref I) v) Q E s:=by
  cases v with
  |ref a=>
   refine aB (wpAny_load ho ?_);rw[hc];cases o.data with
   |fields vs=>
    show aY _ _ (if(_&&_)=true then _ else _) _ _ _;rw[hn];exact a4 q
   |_=>exact a4 q
  |_=>exact a4 q
 cases cE with
 |Tuple=>exact core
 |List=>exact core
 |_=>exact a4 q
theorem LS{h:aF}{α:Al}(T:RS ae w ag h α σ)(ho:h.get? I=some o)(hv:Obj.gh o)(hI:I∉own α)(h0:ag.get? I=none)(k:∀a o,h.get? a=some o→a≠I→h'.get? a=some o):
 RS ae w ag h' α σ∧(∀v p,RV h α v p→RV h' α v p):=
 have hP:∀a o',a=I→h.get? a=some o'→Obj.gh o':=λa o' e g=>c8 (ho.symm.trans (e▸g))▸hv
 ⟨T.nH (P:=(· =I)) k hP λa e=>e▸⟨hI,h0⟩,(RV.nH (P:=(· =I)) k hP).1⟩
theorem drop_cons{l:List PV}{p:PV}(e:p::l=ps.drop i):ps[i]? =some p∧l=ps.drop (i+1):=
 ⟨by rw[←List.head?_drop,←e];rfl,by rw[←List.tail_drop,←e];rfl⟩
theorem drop_nil(e: []=ps.drop i):ps.length≤i:=List.drop_eq_nil_iff.mp e.symm
structure One(ae:bw)(w:br)(A:bO)(I:aI)(ps:List PV)(Pos:Nat→aF→Prop)(C:aF→Al→Prop):Prop where
 obj:∀i h,Pos i h→∃o c,h.get? I=some o∧Obj.gh o∧o.cls= .type c∧ ["enumerate","zip","dict_itemiterator","dict_reverseitemiterator","odict_iterator","itertools.zip_longest","itertools.pairwise"].contains c=false
 pos:∀i h h',Pos i h→(∀o,h.get? I=some o→h'.get? I=some o)→Pos i h'
 mv:∀h h' α aD,C h α→(∀v p,RV h α v p→RV h' aD v p)→C h' aD
 item:∀i p (s:aE) α (E:au→aE→Prop) (Q:Option au→aE→Prop),Pos i s.heap→C s.heap α→ps[i]? =some p→(∀v h' (tk:TK),RV s.heap α v p→Pos (i+1) h'→(∀a,a≠I→h'.get? a=s.heap.get? a)→Q (some v) {s with heap:=h',toks:=tk.1,drawn:=tk.2})→aY (ba ae w) A (ik (.ref I)) Q E s
 done:∀i (s:aE) α (E:au→aE→Prop) (Q:Option au→aE→Prop),Pos i s.heap→C s.heap α→ps.length≤i→(∀h' (tk:TK),(∀a o,s.heap.get? a=some o→a≠I→h'.get? a=some o)→Q none {s with heap:=h',toks:=tk.1,drawn:=tk.2})→aY (ba ae w) A (ik (.ref I)) Q E s
 self:∀i (s:aE) (E:au→aE→Prop) (Q:au→aE→Prop),Pos i s.heap→Q (.ref I) s→aY (ba ae w) A (ng (.ref I)) Q E s
structure StO(ag:aF)(I:aI)(ps:List PV)(Pos:Nat→aF→Prop)(C:aF→Al→Prop)(i:Nat)(l:List PV)(h:aF)(α:Al):Prop where
 pos:Pos i h
 c:C h α
 l:l=ps.drop i
 own:I∉own α
 h0:ag.get? I=none
theorem It.one{A:bO}{Pos:Nat→aF→Prop}{C:aF→Al→Prop}(O:One ae w A I ps Pos C)(G:ah→Prop):It ae w ag A I [I] [I] G false (λl h α=>∃i,StO ag I ps Pos C i l h α)where
 there:=λl h α st b m=>st.elim λi S=>jV (O.obj i h S.pos) λo c g y y y=>fz.mp m▸⟨S.own,o,g⟩
 xf:=λl h α st b m=>st.elim λi S=>jV (O.obj i h S.pos) λo c g y y y=>fz.mp m▸⟨o,g⟩
 move:=λl h h' α aD σ st rv k na y y y=>st.elim λi S=>⟨i,O.pos i h h' S.pos (k I (.head _)),O.mv _ _ _ _ S.c rv,S.l,na I (.head _),S.h0⟩
 item:=λp l s α σ E Q cE y st T g q=>st.elim λi S=>have D:=drop_cons S.l;jV (O.obj i _ S.pos) λo c g1 g2 y y=>O.item i p s α _ _ S.pos S.c D.1 λv h' tk V P' k E'=>
  have M:=LS (h':=h') T g1 g2 S.own S.h0 λa o e ne=>(k a ne).trans e
  jV (O.obj _ _ P') λo' c' g1' y g3 g4=>WT g1' g3 g4 (q v h' tk (M.2 _ _ V) ⟨i+1,P',O.mv _ _ _ _ S.c M.2,D.2,S.own,S.h0⟩ M.1 (λa o e ne=>(k a λz=>ne (z▸ .head _)).trans e) M.2)
 done:=λs α σ E Q st T g q=>st.elim λi S=>jV (O.obj i _ S.pos) λo c g1 g2 y y=>O.done i s α _ _ S.pos S.c (List.drop_eq_nil_iff.mp S.l.symm) λh' tk k=>
  have M:=LS (h':=h') T g1 g2 S.own S.h0 k
  q h' tk M.1 (λa o e ne=>k a o e λz=>ne (z▸ .head _)) M.2
 self:=λl s α E Q st q=>st.elim λi S=>O.self i s E Q S.pos q
theorem WU{A:bO}(ho:A.handled=none){t:aI}:One ae w A I ps (λi h=>h.IsTupleIter I t i) (λh α=>RV h α (.ref t) (.tup ps))where
 obj:=λi h P=>cY P λo g1 g2 g3=>⟨o,_,g1,by unfold Obj.gh;rw[g3];dsimp only;rw[g2];simp,g2,by decide⟩
 pos:=λi h h' P k=>P.at k
 mv:=λh h' α aD V rv=>rv _ _ V
 item:=λi p s α E Q P V e q=>V.iT λa vs m z ht y r=>aT (r.get e) λv e3 V=>wpAny_pyNext_tuple_item P (items:=vs) (qd z▸⟨_,ht,rfl,m,rfl⟩) (x:=v) (gI.symm.trans e3) λh' P' k=>q v h' (_,_) V P' k.2
 done:=λi s α E Q P V e q=>V.iT λa vs m z ht y r=>wpAny_pyNext_tuple_end ho P (items:=vs) (qd z▸⟨_,ht,rfl,m,rfl⟩) (uo (r.size▸e)) λh' k=>q h' (_,_) λa o e ne=>k a o ne e
 self:=λi s E Q P q=>wpAny_pyIter_tupleiter P q
theorem Yc{A:bO}(ho:A.handled=none){t:aI}:One ae w A I ps (λi h=>h.IsListIter I t i) (λh α=>RV h α (.ref t) (.lst ps))where
 obj:=λi h P=>cY P λo g1 g2 g3=>⟨o,_,g1,by unfold Obj.gh;rw[g3];dsimp only;rw[g2];simp,g2,by decide⟩
 pos:=λi h h' P k=>P.at k
 mv:=λh h' α aD V rv=>rv _ _ V
 item:=λi p s α E Q P V e q=>V.iL λa vs m z ht y r=>aT (r.get e) λv e3 V=>wpAny_pyNext_list_item P (items:=vs) (qd z▸⟨_,ht,rfl,m,rfl⟩) (x:=v) (gI.symm.trans e3) λh' P' k=>q v h' (_,_) V P' k.2
 done:=λi s α E Q P V e q=>V.iL λa vs m z ht y r=>wpAny_pyNext_list_end ho P (items:=vs) (qd z▸⟨_,ht,rfl,m,rfl⟩) (uo (r.size▸e)) λh' k=>q h' (_,_) λa o e ne=>k a o ne e
 self:=λi s E Q P q=>wpAny_pyIter_listiter P q
theorem WV{A:bO}(ho:A.handled=none){a:Int}:One ae w A I ((dK m).map λj=>PV.int (a+(j:Nat))) (λi h=>Dt h I (a+i) ((m:Int)-i) 1) (λy y=>True)where
 obj:=λi h P=>⟨_,_,P,by unfold Obj.gh;simp,rfl,by decide⟩
 pos:=λi h h' P k=>k _ P
 mv:=λh h' α aD y rv=>trivial
 item:=λi p s α E Q P y e q=>by
  rw[eM]at e;refine iX e λj e1 z=> ?_;have dD:i<m:=by have:=(fe.mp e1).1;rwa [q9]at this
  rw[List.getElem?_range dD]at e1;refine wpAny_pyNext_range_item P (by lia) λh' P' k=>q _ h' (_,_) (z▸c8 e1▸ .int _ _) ?_ k.2;rw[show a+((i+1:Nat):Int)=a+(i:Int)+1 by push_cast;lia,show(m:Int)-((i+1:Nat):Int)=(m:Int)-(i:Int)-1 by push_cast;lia];exact P'
 done:=λi s α E Q P y e q=>wpAny_pyNext_range_end ho P (by rw[bB,q9]at e;lia) λh' k=>q h' (_,_) λa o e ne=>k a o ne e
 self:=λi s E Q P q=>wpAny_pyIter_rangeiter P q
def itemsOf:PV→Option (List PV)
 | .tup l=>some l
 | .lst l=>some l
 | .d7 a b=>if vf a=true∧vf b=true then some (fC a b)else none
 |_=>none
def bE(c:CE):CI:=λρ σ=>(c ρ σ).bind λr=>(itemsOf r.1).bind λl=>some (l,r.2)
theorem cp.none{L:aI}{h h':aF}{α aD:Al}{σ:ah}(X:cp L h h' α aD)(T:RS ae w ag h' aD σ)(N:∃m,h'.Ns L m){b:aI}(e:h'.get? b=none):h.get? b=none:=by
 cases g:h.get? b with
 |none=>rfl
 |some o=>
  by_cases m:b∈own α
  ·exact cL ((bV wA e).symm.trans (T.there b (X.pre.elim λβ z=>z▸mV.mpr (.inl m))))
  ·by_cases ml:b=L
   ·exact N.elim λmm N=>ku N λo y y g y=>aQ (e.symm.trans (ml▸g))
   ·exact aQ (e.symm.trans (X.keep b o g m ml))
theorem acn{c:CE}(h:SE ae w ag n aa t c):SI ae w ag n aa false t (bE c):=λA s α ρ σ l aq E Q ho R T e0 q=>cy e0 λp bj e1 e2=>c4 e2 λl' e3 e4=>cw e4 λz1 z2=>h A s α ρ σ p _ E _ ho R T e1 λv h' tk aD X T' V=>by
 have R':=R.ext X;have fin:∀(o:Obj) {ps:List PV} {Pos:Nat→aF→Prop} {C:aF→Al→Prop},One ae w A h'.objs.size ps Pos C→ps=l→Pos 0 (h'.push o)→C (h'.push o) aD→Q (.ref h'.objs.size) {s with heap:=h'.push o,toks:=tk.1,drawn:=tk.2}:=λo ps Pos C O zl P cc=>by
  have kp:=Kp.push aa.locals h' o;exact q _ _ tk aD _ _ _ (X.trans (kp.ext aD)) (z2▸T'.kp kp R'.dX R'.ns R'.L0) (It.one O _) (λb m=>X.none T' R'.ns (m.elim (λm=>fz.mp m▸fR _) λm=>fz.mp m▸fR _)) rfl
   ⟨0,P,cc,zl.symm,kf T',yy.mpr λo g=>aQ ((fR _).symm.trans (T'.base _ o g))⟩
 have up:∀o,RV (h'.push o) aD v p:=λo=>V.ext ((Kp.push aa.locals h' o).ext aD) R'.ns;cases p with
 |tup ps=>exact V.iT λt vs m z ht hn r=>z▸CA (items:=vs) ⟨_,ht,rfl,m,rfl⟩ (fin _ (WU (t:=t) ho.1) ((c8 e3).trans z1) ⟨_,fP _ rfl,rfl,rfl⟩ (z▸up _))
 |lst ps=>exact V.iL λt vs m z ht hn r=>z▸CH (items:=vs) ⟨_,ht,rfl,m,rfl⟩ (fin _ (Yc (t:=t) ho.1) ((c8 e3).trans z1) ⟨_,fP _ rfl,rfl,rfl⟩ (z▸up _))
 |d7 a b=>
  exact gF e3 λhc e3=>have sm:=Ld hc.1 hc.2;V.iR λr t u x z hr y=>z▸wpAny_pyIter_range hr sm.1 (fin _ (WV (a:=a) (m:=(b-a).toNat) ho.1) ((c8 e3).trans z1) (by
   rw[sm.2.1];simpa using fP _ rfl) trivial)
 |_=>exact aQ e3
end
noncomputable def gu(aa:Env):List (Str×kJ)→List (Str×aI)→List (Str×aI)
 | [],acc=>acc
 |(y,k)::r,acc=>if k== .free then gu aa r ((y,(aa.cells.lookup y).getD 0)::acc)else gu aa r acc
variable{scope:Scope}
theorem V8(h:∀y,(y,jr)∈scope.names→(aa.cells.lookup y).isSome=true):closureFor scope aa=pure (gu aa scope.names []):=by
 have core:∀(l:List (Str×kJ)) (acc:List (Str×aI)),(∀y,(y,jr)∈l→(aa.cells.lookup y).isSome=true)→
  (forIn l acc λ(x:Str×kJ) (cs:List (Str×aI))=>(match x with|(name,kind)=>if(kind==jr)=true then(do let a←cellOf aa name;pure (ux ((name,a)::cs)))else pure (ux cs):Sem (ForInStep (List (Str×aI)))))=pure (gu aa l acc):=by
  intro l
  induction l with
  |nil=>intro acc _;rw[List.forIn_nil];rfl
  |cons x l ih=>
   intro acc hl;obtain⟨y,k⟩:=x;rw[wy];have iY:∀y,(y,jr)∈l→(aa.cells.lookup y).isSome=true:=λy m=>hl y (kF _ m);by_cases hk:k=jr
   ·subst hk;refine nG (hl y mM) λc hc=> ?_;have rT:cellOf aa y=pure c:=by unfold cellOf;rw[hc]
    show(if(jr==jr)=true then(cellOf aa y>>=λa=>pure (ux ((y,a)::acc)))else _)>>=_=pure (gu aa l ((y,(aa.cells.lookup y).getD 0)::acc));rw[rT,hc];exact ih _ iY
   ·have jj:(k==jr)=false:=by simpa using hk
    show(if(k==jr)=true then _ else _)>>=_=pure (if(k==jr)=true then _ else _);rw[jj];exact ih _ iY
 have:=core scope.names [] h;show(forIn scope.names [] (λ(x:Str×kJ) (cs:List (Str×aI))=>(match x with|(name,kind)=>if(kind==jr)=true then(do let a←cellOf aa name;pure (ux ((name,a)::cs)))else pure (ux cs):Sem (ForInStep (List (Str×aI)))))>>=λs=>pure s)=_;rw[this];rfl
theorem u6{aa:Env}{y:Str}{c:aI}:∀{l:List (Str×kJ)} {acc:List (Str×aI)},(y,c)∈gu aa l acc→(y,c)∈acc∨((y,jr)∈l∧c=(aa.cells.lookup y).getD 0)
 | [],_,h=> .inl h
 |(x,k)::l,acc,h=>by
  by_cases hk:(k== .free)=true
  ·rw[show gu aa ((x,k)::l) acc=gu aa l ((x,(aa.cells.lookup x).getD 0)::acc)from aP hk]at h;rcases u6 h with q|⟨q,e⟩
   ·rcases cG.mp q with q|q
    ·clear h;cases q;exact .inr ⟨by rw[(by simpa using hk:k= .free)];exact mM,rfl⟩
    ·exact .inl q
   ·exact .inr ⟨kF _ q,e⟩
  ·rw[show gu aa ((x,k)::l) acc=gu aa l acc from aS hk]at h;rcases u6 h with q|⟨q,e⟩
   ·exact .inl q
   ·exact .inr ⟨kF _ q,e⟩
theorem Ee{aa:Env}{y:Str}:∀{l:List (Str×kJ)} {acc:List (Str×aI)},((y,jr)∈l∨∃c,(y,c)∈acc)→∃c,(y,c)∈gu aa l acc
 | [],_,h=>by
  rcases h with h|h
  ·cases h
  ·exact h
 |(x,k)::l,acc,h=>by
  by_cases hk:(k== .free)=true
  ·rw[show gu aa ((x,k)::l) acc=gu aa l ((x,(aa.cells.lookup x).getD 0)::acc)from aP hk];refine Ee ?_;rcases h with h|⟨c,h⟩
   ·rcases cG.mp h with h|h
    ·clear hk;cases h;exact .inr ⟨_,mM⟩
    ·exact .inl h
   ·exact .inr ⟨c,kF _ h⟩
  ·rw[show gu aa ((x,k)::l) acc=gu aa l acc from aS hk];refine Ee ?_;rcases h with h|h
   ·rcases cG.mp h with h|h
    ·cases h;exact bP rfl hk
    ·exact .inl h
   ·exact .inr h
theorem U0{l:List (Str×aI)}{y:Str}{f:Str→aI}(all:∀x c,(x,c)∈l→c=f x){c:aI}(m:(y,c)∈l):l.lookup y=some (f y):=by
 induction l with
 |nil=>cases m
 |cons p l ih=>
  obtain⟨x,d⟩:=p;rw[ke];by_cases q:y=x
  ·clear m;subst q;simp only[nQ];rw[all y d mM]
  ·have:(y==x)=false:=by simpa using q
   simp only[this];refine ih (λx c m=>all x c (kF _ m)) ?_;rcases cG.mp m with m|m
   ·clear all this;cases m;exact bP rfl q
   ·exact m
theorem V9{l:List (Str×kJ)}{y:Str}(m:(y,jr)∈l):(gu aa l []).lookup y=some ((aa.cells.lookup y).getD 0):=by
 refine bG (Ee (aa:=aa) (l:=l) (acc:= []) (.inl m)) λc hc=> ?_;refine U0 (f:=λx=>(aa.cells.lookup x).getD 0) (λx d hd=> ?_) hc;rcases u6 hd with q|⟨_,e⟩
 ·cases q
 ·exact e
theorem sk:∀(names:List (Str×kJ)) (n:Nat) (acc:List (Str×aI)),ju n names acc=ju n names []++acc
 | [],_,_=>rfl
 |(x,k)::r,n,acc=>by
  unfold ju;split
  ·rw[sk r (n+1) ((x,n)::acc),sk r (n+1) [(x,n)],jo];rfl
  ·exact sk r n acc
theorem uK{l m:List (Str×aI)}{y:Str}:(l++m).lookup y=(l.lookup y).or (m.lookup y):=by
 induction l with
 |nil=>rfl
 |cons p l ih=>
  obtain⟨x,d⟩:=p;rw[ke,ke];cases q:y==x
  ·exact ih
  ·rfl
def dZ(scope:Scope)(C:aI)(aa:Env):Env:=
 {scope:=relabel scope aa,locals:=C,globals:=aa.globals,cells:=ju (C+1) scope.names (gu aa scope.names []),qual:=aa.qual,func:=none,code:=aa.code,frame:=aa.frame,builtins:=aa.builtins}
structure ll(scope:Scope)(aa:Env)(tg:List String):Prop where
 kind:scope.kind= .function
 xK:∀y k,(y,k)∈scope.names→scope.names.lookup y=some k
 free:∀y,(y,jr)∈scope.names→∃x,y=S x∧(aa.kindOf y=some .cell∨aa.kindOf y=some .free)
 cell:∀y,(y,wB)∈scope.names→∃x,y=S x
 RY:∀x,scope.names.lookup (S x)=some .local∨scope.names.lookup (S x)=some .cell→x∈tg
noncomputable def aO.drop(ρ:aO)(tg:List String):aO:=λx=>if x∈tg then none else ρ x
theorem C0{y:Str}:(relabel scope aa).names.lookup y=(scope.names.lookup y).map λk=>if(k== .free&&aa.scope.kind== .function&&aa.kindOf y==some .cell)=true then .cell else k:=by
 unfold relabel;dsimp only
 induction scope.names with
 |nil=>rfl
 |cons p l ih=>
  obtain⟨x,k⟩:=p;rw[jq];by_cases hc:(k== .free&&aa.scope.kind== .function&&aa.kindOf x==some .cell)=true
  ·rw[aP hc];rw[ke,ke];by_cases q:y=x
   ·subst q;simp only[nQ,k9,aP hc]
   ·have:(y==x)=false:=by simpa using q
    simp only[this];exact ih
  ·rw[aS hc];rw[ke,ke];by_cases q:y=x
   ·subst q;simp only[nQ,k9,aS hc]
   ·have:(y==x)=false:=by simpa using q
    simp only[this];exact ih
section
variable{ae:bw}{w:br}{ag:aF}{K:Frag}{n:Nat}{aa:Env}{scope:Scope}{tg:List String}
theorem U4{M:Model}{A:bO}{E:au→aE→Prop}{s:aE}{Q:Env→aE→Prop}
 (q:∀e:Env,({e with scope:=relabel scope aa}:Env)=dZ scope s.heap.objs.size aa→e.locals=s.heap.objs.size→Q e {s with heap:=qi (s.heap.push {cls:= .type "dict",data:= .dict #[]}) scope.names}):
 aY M A (newFunctionEnv scope aa.globals (gu aa scope.names []) [] aa.qual none .none (some aa)) Q E s:=by
 refine aB (wpAny_alloc ?_);refine aB (wpAny_layCells _ (λname kind cells=>by cases hkc:kind==wB<;>simp[hkc]) _ _ _ _ ?_);rw[show({s with heap:=s.heap.push {cls:= .type "dict",data:= .dict #[]}}:aE).heap.objs.size=s.heap.objs.size+1 from gY ..];refine aB ?_;exact a4 (a4 (q _ rfl rfl))
theorem aaq{h:aF}{α:Al}(R:RE ag h aa α ρ)(T:RS ae w ag h α σ)(O:ll scope aa tg):
 RE ag (qi (h.push {cls:= .type "dict",data:= .dict #[]}) scope.names) (dZ scope h.objs.size aa) α (ρ.drop tg):=by
 have up:∀b o,h.get? b=some o→(qi (h.push {cls:= .type "dict",data:= .dict #[]}) scope.names).get? b=some o:=λb o e=>Kl _ _ _ _ (cR _ e);have kp:Kp aa.locals h (qi (h.push {cls:= .type "dict",data:= .dict #[]}) scope.names):=Kp.of up;have ok:=cellsFrom_ok scope.names (h.push {cls:= .type "dict",data:= .dict #[]}) (h.objs.size+1) [] ⟨λu u hm=>(nomatch hm),UE⟩ (by rw[gY];exact cH _);rw[gY]at ok;have cells:(dZ scope h.objs.size aa).cells=ju (h.objs.size+1) scope.names []++gu aa scope.names []:=sk ..;have kind:∀y,(dZ scope h.objs.size aa).kindOf y=(scope.names.lookup y).map λk=>if(k== .free&&aa.scope.kind== .function&&aa.kindOf y==some .cell)=true then .cell else k:=λy=>C0
 have aar:∀y c,(y,c)∈ju (h.objs.size+1) scope.names []→(y,wB)∈scope.names:=λy c m=>by
  rcases C5 _ _ _ _ _ m with q|q
  ·cases q
  ·exact q
 have xg:∀y,(y,jr)∈scope.names→∃x c,y=S x∧aa.cells.lookup y=some c∧(dZ scope h.objs.size aa).cells.lookup y=some c∧c<h.objs.size:=λy m=>by
  (refine aT (O.free y m) λx aM k=> ?_;subst aM);obtain⟨c,h1,h2,h3,h4,vo,h5,h6⟩:=R.lD x k;refine⟨x,c,rfl,h1,?_,h5.lt⟩;rw[cells,uK];have:(ju (h.objs.size+1) scope.names []).lookup (S x)=none:=by
   cases q:(ju (h.objs.size+1) scope.names []).lookup (S x)with
   |none=>rfl
   |some d=>
    have e1:=O.xK _ _ (aar _ _ (mem_of_lookup q));have e2:=O.xK _ _ m;rw[e1]at e2;cases e2
  rw[this,V9 m,h1];rfl
 have OS:∀y c,(dZ scope h.objs.size aa).cells.lookup y=some c→((y,c)∈ju (h.objs.size+1) scope.names [])∨((y,jr)∈scope.names):=λy c e=>by
  rw[cells,uK]at e;cases q:(ju (h.objs.size+1) scope.names []).lookup y with
  |some d=>rw[q]at e;(refine cj e λaL=> ?_;clear e;subst aL);exact .inl (mem_of_lookup q)
  |none=>
   rw[q]at e;rcases u6 (mem_of_lookup e)with z|⟨z,_⟩
   ·cases z
   ·exact .inr z
 refine⟨O.kind,R.gl,R.bu,⟨λu=>none,(Heap.Ns.new h (.type "dict")).keeps (Kl _ _),λx v k e=> ?_⟩,λx k=> ?_,λy z c e1 e2=> ?_,kf T,?_⟩
 ·rw[kind]at k;(refine iX k λk' e1 e2=> ?_;clear k);have:k'= .local:=by
   split at e2
   ·cases e2
   ·exact e2
  clear e2;subst this;unfold aO.drop at e;replace e:=(aP (O.RY x (.inl e1))).symm.trans e;exact aQ e
 ·have own:scope.names.lookup (S x)=some .cell→∃c,(dZ scope h.objs.size aa).cells.lookup (S x)=some c∧c∉own α∧c≠(dZ scope h.objs.size aa).locals∧ag.get? c=none∧∃vo,Heap.IsCell (qi (h.push {cls:= .type "dict",data:= .dict #[]}) scope.names) c vo∧∀v,ρ.drop tg x=some v→∃val,vo=some val∧RV (qi (h.push {cls:= .type "dict",data:= .dict #[]}) scope.names) α val v:=λe1=>by
   refine nG (cellsFrom_some scope.names (h.objs.size+1) [] (.inl e1)) λc hc=> ?_;refine cM (ok.empty _ _ (mem_of_lookup hc)) λce cl=> ?_;have Ew:h.get? c=none:=by
    cases g:h.get? c with
    |none=>rfl
    |some o=>have:=dy g;exact bP this (eP.mpr (CJ cl))
   refine⟨c,by rw[cells,uK,hc];rfl,λm=> ?_,?_,?_,none,ce,λv e=> ?_⟩
   ·refine nG (T.there c m) λo g=> ?_;rw[Ew]at g;exact aQ g
   ·exact nU cl
   ·cases g:ag.get? c with
    |none=>rfl
    |some o=>rw[T.base c o g]at Ew;cases Ew
   ·unfold aO.drop at e;replace e:=(aP (O.RY x (.inr e1))).symm.trans e;exact aQ e
  have RZ:scope.names.lookup (S x)=some .free→∃c,(dZ scope h.objs.size aa).cells.lookup (S x)=some c∧c∉Mine.own α∧c≠(dZ scope h.objs.size aa).locals∧ag.get? c=none∧∃vo,Heap.IsCell (qi (h.push {cls:= .type "dict",data:= .dict #[]}) scope.names) c vo∧∀v,ρ.drop tg x=some v→∃val,vo=some val∧RV (qi (h.push {cls:= .type "dict",data:= .dict #[]}) scope.names) α val v:=λe1=>by
   refine jV (xg _ (mem_of_lookup e1)) λx' c e3 e4 e5 e6=> ?_;refine aT (O.free _ (mem_of_lookup e1)) λx'' e7 k'=> ?_;cases jz e7;obtain⟨c',h1,h2,h3,h4,vo,h5,h6⟩:=R.lD x k';rw[e4]at h1;(refine cj h1 λaL=> ?_;clear h1;clear h3;subst aL);refine⟨c,e5,h2,gK e6,h4,vo,h5.keeps up,λv e=> ?_⟩;unfold aO.drop at e;split at e
   ·exact aQ e
   ·refine aT (h6 v e) λval z1 z2=> ?_;exact⟨val,z1,z2.ext (kp.ext α) R.ns⟩
  rw[kind]at k;rcases k with k|k
  ·(refine iX k λk' e1 e2=> ?_;clear k);split at e2
   ·rename_i hc;have:k'= .free:=by
     simp only[ia,eF]at hc;exact hc.1.1
    clear hc;subst this;exact RZ e1
   ·subst e2;exact own e1
  ·(refine iX k λk' e1 e2=> ?_;clear k);split at e2
   ·cases e2
   ·subst e2;exact RZ e1
 ·rcases OS _ _ e1 with m1|m1<;>rcases OS _ _ e2 with m2|m2
  ·exact name_of_addr ok.apart m1 m2
  ·refine jV (xg _ m2) λu c' u u e5 e6=> ?_;rw[e2]at e5;(refine cj e5 λaL=> ?_;clear e5;subst aL);exact bP e6 (eP.mpr (CJ ((ok.empty _ _ m1).2)))
  ·refine jV (xg _ m1) λu c' u u e5 e6=> ?_;rw[e1]at e5;(refine cj e5 λaL=> ?_;clear e5;subst aL);exact bP e6 (eP.mpr (CJ ((ok.empty _ _ m2).2)))
  ·refine jV (xg _ m1) λu c1 u z1 e5 u=> ?_;refine jV (xg _ m2) λu c2 u z2 e6 u=> ?_;rw[e1]at e5;(refine cj e5 λaL=> ?_;clear e5;subst aL);rw[e2]at e6;(refine cj e6 λaL=> ?_;clear e6;subst aL);exact R.apart _ _ _ z1 z2
 ·refine bG R.ns λm N=> ?_;exact ao R.jg (uE N.lt)
theorem Ls{C:aI}(O:ll scope aa tg):hF (dZ scope C aa):=λy c e=>by
 have kind:(dZ scope C aa).kindOf y=(scope.names.lookup y).map λk=>if(k== .free&&aa.scope.kind== .function&&aa.kindOf y==some .cell)=true then .cell else k:=C0
 have e':(ju (C+1) scope.names (gu aa scope.names [])).lookup y=some c:=e;rw[sk,uK]at e';cases q:(ju (C+1) scope.names []).lookup y with
 |some d=>
  rcases C5 _ _ _ _ _ (mem_of_lookup q)with z|z
  ·cases z
  ·refine bG (O.cell y z) λx hx=> ?_;exact⟨x,hx,.inl (by rw[kind,O.xK _ _ z];rfl)⟩
 |none=>
  rw[q]at e';rcases u6 (mem_of_lookup e')with z|⟨z,_⟩
  ·cases z
  ·refine aT (O.free y z) λx hx w=> ?_;refine⟨x,hx,?_⟩;rw[kind,O.xK _ _ z,k9];by_cases hc:(jr==jr&&aa.scope.kind== .function&&aa.kindOf y==some .cell)=true
   ·rw[aP hc];exact .inl rfl
   ·rw[aS hc];exact .inr rfl
end
abbrev CL:=aO→ah→Option (aO×ah)
def SA(ae:bw)(w:br)(ag:aF)(n:Nat)(aa:Env)(D:aI)(k:Nat)(t:Sem Unit)(c:CL):Prop:=
 ∀(A:bO) (s:aE) (α:Al) (ρ:aO) (σ:ah) (ai:aO) (aq:ah) (E:au→aE→Prop) (Q:Unit→aE→Prop),fc n A→RE ag s.heap aa α ρ→RS ae w ag s.heap α σ→α[k]? =some (D,D)→c ρ σ=some (ai,aq)→
  (∀h' (tk:TK) aD,dN aa s.heap h' α aD→RE ag h' aa aD ai→RS ae w ag h' aD aq→Q () {s with heap:=h',toks:=tk.1,drawn:=tk.2})→aY (ba ae w) A t Q E s
def bK(e:CE)(k:Nat):CL:=λρ σ=>(e ρ σ).bind λr=>((r.2[k]?).bind tD).bind λys=>if ys.length≤1000000 then some (ρ,r.2.set k (.list (ys++ [r.1])))else none
noncomputable def hG(z:Bool)(kz:Nat)(bF:CT)(cv:CB)(emit:CL):List PV→CL
 | [],ρ,σ=>some (ρ,σ)
 |p::l,ρ,σ=>(bF p ρ σ).bind λr=>(cv r.1 r.2).bind λb=>(if b.1=true then emit r.1 b.2 else some (r.1,b.2)).bind λq=>if gd z kz q.2=true then hG z kz bF cv emit l q.1 q.2 else none
noncomputable def jM(eK:List a6)(aa:Env):Sem Bool:=forIn eK true λc r=>if r=true then do let ok←jS c aa (eval c aa);pure (ux ok)else pure (ux r)
variable{cN:a6}{D:aI}{gens:List wD}{eK:List a6}{cv:CB}
section
variable{ae:bw}{w:br}{ag:aF}{K:Frag}{n:Nat}{aa:Env}
theorem WW:SB ae w ag n aa (jM [] aa) (λz σ=>some (true,σ)):=by
 intro A s α ρ σ b aq E Q ho R T e q;(refine cw e λaL aM=> ?_;clear e;subst aL aM);exact wpAny_tests_nil (q _ (s.toks,s.drawn) α (cp.refl ..) T)
theorem WX{c:a6}{ct:CB}(h:SB ae w ag n aa (jS c aa (eval c aa)) ct):SB ae w ag n aa (jM [c] aa) ct:=by
 intro A s α ρ σ b aq E Q ho R T e q;exact wpAny_tests_one (h A s α ρ σ b aq E Q ho R T e q)
theorem w5{α:Al}{x:aI×aI}(p:∃β,aD=α++β)(e:α[k]? =some x):aD[k]? =some x:=p.elim λβ z=>z▸(jn (fe.mp e).1).trans e
theorem Ef{c:CE}(h:SE ae w ag n aa (eval cN aa) c):SA ae w ag n aa D k (do let _←call (.builtin "list.append") [.ref D,←eval cN aa]) (bK c k):=λA s α ρ σ ai aq E Q ho R T ea e q=>cy e λp bj e1 e2=>c4 e2 λys e3 e2=>gF e2 λhc e2=>cw e2 λz1 z2=>
 aB (m:=eval cN aa) (f:=λx=>call (.builtin "list.append") [.ref D,x]>>=λz=>pure ()) (h A s α ρ σ p bj E _ ho R T e1 λv h' tk aD X T' V=>aB (by
  have R0:=w5 X.pre ea;have R':=R.ext X;refine gD (T'.objs k _ _ _ R0 (wV e3)).2 λws m hl Vs=>Lr hl (by rw[Vs.size];exact ao hc (aK rfl)) (bG (w4 hl (·.push v)) λm' iY=> ?_);have U:=Ed (o':= .list (ys++ [p])) R' T' R0 DO (by rw[iY];rfl) λY=>⟨rfl,_,m',iY,by
   rw[J0];exact(Vs.ext Y R'.ns).append (.cons (V.ext Y R'.ns) .nil)⟩
  exact a4 (q _ tk aD (X.trans U.1).st (z1▸R'.ext U.1) (z2▸U.2))))
structure Ig(ae:bw)(w:br)(ag:aF)(aa:Env)(vS:Al)(D:aI)(k:Nat)(z:Bool)(kz:Nat)(St:List PV→aF→Al→Prop)(RX:aF→Al→Prop)(bF:CT)(cv:CB)(emit:CL)(r:aO×ah)(l:List PV)(m:Me)(ρ:aO)(σ:ah):Prop where
 X:RX m.h m.α
 pz:∃β,m.α=vS++β
 R:RE ag m.h aa m.α ρ
 T:RS ae w ag m.h m.α σ
 g:gd z kz σ=true
 st:St l m.h m.α
 ea:m.α[k]? =some (D,D)
 e:hG z kz bF cv emit l ρ σ=some r
theorem LU(C:hF aa){pos ps:Pos}{d:Nat}{body:Sem Unit}{z:Bool}{kz:Nat}{emit:CL}
 (ht:ST ae w ag n aa (assign cE aa) bF) (qL:SB ae w ag n aa (jM eK aa) cv) (hb:SA ae w ag n aa D k body emit)
 (qw:qk (.ListComp cN gens scope pos) d (.ref I) (.ref D) aa=(do
  ig ps
  match←ik (.ref I)with
  |none=>pure (.done .next)
  |some v=>
   mQ cE (.ref I) v
   assign cE aa v
   let ok←jM eK aa
   if ok then body
   again (.compLoop (.ListComp cN gens scope pos) d (.ref I) (.ref D) aa)))
 {A:bO} {wr fp:List aI} {St:List PV→aF→Al→Prop} (ho:fc n A) (J:It ae w ag A I wr fp (λσ=>gd z kz σ=true) z St) (kC:z=true→ny cE=true) {RX:aF→Al→Prop} (rW:∀h h' α,RX h α→(∀a o,h.get? a=some o→a∉wr→h'.get? a=some o)→RX h' α) (rS:∀h h' α aD,RX h α→dN aa h h' α aD→(∀y c,aa.cells.lookup y=some c→c∉own aD)→RX h' aD) (Ih:aa.locals∉wr∧aa.locals∉fp) (BE:∀x c,aa.cells.lookup x=some c→c∉wr∧c∉fp)
 {l:List PV} {s:aE} {m:Me} {r:aO×ah} {Rr:Result→aE→Prop} {vS:Al} (aeK:Ig ae w ag aa vS D k z kz St RX bF cv emit r l m ρ σ)
 (q:∀m',RX m'.h m'.α→RE ag m'.h aa m'.α r.1→RS ae w ag m'.h m'.α r.2→(∃β,m'.α=vS++β)→Rr (.ok .next) (atS s m')):
 jQ (ba ae w) A (.compLoop (.ListComp cN gens scope pos) d (.ref I) (.ref D) aa) Rr (atS s m):=by
 have hc:∀x c,aa.cells.lookup x=some c→c∉wr:=λx c e=>(BE x c e).1;refine codeAny_loop rfl (λj cV=>∃l m ρ σ,j=l.length∧cV=atS s m∧Ig ae w ag aa vS D k z kz St RX bF cv emit r l m ρ σ) (λj cV hj=>Ba hj λl m ρ σ zj zs I=> ?_) l.length ⟨l,m,ρ,σ,rfl,rfl,aeK⟩;rw[zs,zj];show aY _ A ((qk (.ListComp cN gens scope pos) d (.ref _) (.ref D) aa).onRaise (λx=>do noteFrame x aa;theTreesLotGoes x)) _ _ _;refine wpAny_noted ?_;rw[qw];refine aB (oW (aB ?_));cases l with
 |nil=>exact cj I.e λzr=>J.done _ m.α _ _ _ I.st I.T I.g λh' c6 T' k' rv=>a4 (q ⟨h',c6,m.α⟩ (rW _ _ _ I.X k') (zr▸I.R.th k' rv Ih.1 hc) (zr▸T') I.pz)
 |cons p l=>
  refine cy I.e λaA bj e1 e2=>cy e2 λok dt e3 e4=>cy e4 λdw om e5 e6=>gF e6 λg2 e6=> ?_;refine fD (J.item p l _ m.α σ _ (λv fF=>∃m',fF=atS s m'∧RV m'.h m.α v p∧St l m'.h m.α∧RS ae w ag m'.h m.α σ∧RE ag m'.h aa m.α ρ∧RX m'.h m.α) cE kC I.st I.T I.g
   λv h' c6 V t9 T' k' rv=>⟨⟨h',c6,m.α⟩,rfl,V,t9,T',I.R.th k' rv Ih.1 hc,rW _ _ _ I.X k'⟩) (λov cV h1=> ?_) λu u x=>x
  cases ov with
  |none=>exact h1.elim
  |some v=>
   refine aB (fD (h1 _) (λu fF h2=>xD h2 λm' zs V t9 T' R' X'=> ?_) λu u x=>x);rw[zs];refine aB (ht A _ m.α ρ σ v p aA bj _ _ ho R' T' V e1 λh3 gS iu X3 R3 T3=>aB (qL A _ iu aA bj ok dt _ _ ho R3 T3 e3 λh4 mi hW X4 T4=> ?_));have R4:=R3.ext X4;have R6:hW[k]? =some (D,D):=w5 X4.pre (w5 X3.pre I.ea);have fin:∀h5 (pV:TK) rU,dN aa h4 h5 hW rU→RE ag h5 aa rU dw→RS ae w ag h5 rU om→∃i,i<(p::l).length∧∃l m ρ σ,i=l.length∧({s with heap:=h5,toks:=pV.1,drawn:=pV.2}:aE)=atS s m∧Ig ae w ag aa vS D k z kz St RX bF cv emit r l m ρ σ:=λh5 pV rU X5 R5 T5=>
    have Ii:dN aa m'.h h5 m.α rU:=X3.trans (X4.ql X5) (R5.cn C)
    ⟨l.length,qb _,l,⟨h5,pV,rU⟩,dw,om,rfl,rfl,rS _ _ _ _ X' Ii (R5.cn C),I.pz.elim λβ z1=>Ii.pre.elim λγ z2=>⟨β++γ,z2.trans (by rw[z1,jo])⟩,R5,T5,g2,J.step C Ih.2 (λx c e=>(BE x c e).2) t9 Ii R' T5 g2,w5 X5.pre R6,e6⟩
   cases ok with
   |false=>exact cw e5 λz1 z2=>a4 ⟨rfl,fin h4 mi hW (dN.refl ..) (z1▸R4) (z2▸T4)⟩
   |true=>exact aB (hb A _ hW aA dt dw om _ _ ho R4 T4 R6 e5 λh5 pV rU X5 R5 T5=>a4 ⟨rfl,fin h5 pV rU X5 R5 T5⟩)
end
theorem JE{ae:bw}{w:br}{A:bO}{R:Result→aE→Prop}{s:aE}{pos:Pos}{d:Nat}{it acc:au}{g:wD}(hg:gens[d]? =some g)(ha:g.is_async=0)
 (h0:jQ (ba ae w) A (.compLoop (.ListComp cN gens scope pos) d it acc aa) R s)
 (h:aY (ba ae w) A (ng it) (λx6 s'=>jQ (ba ae w) A (.compLoop (.ListComp cN gens scope pos) d x6 acc aa) R s') (notedBy (ba ae w) A aa λx s'=>R (.error x) s') s):
 jQ (ba ae w) A (.compStart (.ListComp cN gens scope pos) d it acc aa) R s:=by
 refine CX ?_;refine wpAny_notedAt ?_;unfold compStart;rw[hg];simp only[Option.elim_some,ha,bne_self_eq_false,CC,if_false];refine aB (uv (wpAny_ite ?_));split
 ·first
   |exact aB (a4 (a4 (zN rfl h0)))
   |exact a4 (zN rfl h0)
 ·first
   |exact aB (rt (aB (oW (aB (fD h (λx6 s' h'=>a4 (zN rfl h')) λz z x=>x)))))
   |(refine aB (rt ?_);show aY _ _ (ig _>>=_) _ _ s;exact aB (oW (aB (fD h (λx6 s' h'=>a4 (zN rfl h')) λz z x=>x))))
open Classical in
def bQ(σ:ah)(k:Nat)(q:aO×ah):Option (PV×ah):=if nh σ q.2 then(pT σ.length q.2 (.loc k)).bind λv=>some (v,q.2.take σ.length)else none
noncomputable def runC(z:Bool)(tg:List String)(it:CI)(bF:CT)(cv:CB)(emit:Nat→CL)(fin:ah→Nat→aO×ah→Option (PV×ah)):CE:=λρ σ=>(it ρ σ).bind λr=>(hG z (r.2.length-1) bF cv (emit r.2.length) r.1 (ρ.drop tg) (r.2++ [.list []])).bind λq=>fin σ r.2.length q
noncomputable def xq(_:ah)(k:Nat)(q:aO×ah):Option (PV×ah):=some (.loc k,q.2)
def vj(ae:bw)(w:br)(ag:aF)(fin:ah→Nat→aO×ah→Option (PV×ah)):Prop:=
 ∀(h h4:aF) (α β:Al) (σ:ah) (k:Nat) (D L:aI) (bL:aO) (dt:ah) (pv:PV) (aq:ah),RS ae w ag h α σ→RS ae w ag h4 (α++β) dt→(α++β)[k]? =some (D,D)→cp L h h4 α (α++β)→fin σ k (bL,dt)=some (pv,aq)→
  ∃aD,(∀a,a∈own aD→a∈own (α++β))∧cp L h h4 α aD∧RS ae w ag h4 aD aq∧RV h4 aD (.ref D) pv
variable{tg:List String}
section
variable{ae:bw}{w:br}{ag:aF}{K:Frag}{n:Nat}{aa:Env}
theorem aas{z:Bool}{o:PO}(g:gd z (σ.length-1) σ=true):gd z (σ.length-1) (σ++ [o])=true:=by
 cases z with
 |false=>rfl
 |true=>
  unfold gd at g⊢;cases q:σ[σ.length-1]? with
  |none=>rw[q]at g;(first|exact aQ g|exact dA g|exact cL g)
  |some o'=>
   refine bG (fe.mp q) λi y=> ?_;rw[jn i,q];rw[q]at g;exact g
theorem aat:vj ae w ag bQ:=λh h4 α β σ k D L bL dt pv aq T T4 ea X4 e=>gF e λold e=>c4 e λv e5 e6=>cw e6 λz1 z2=>
 ⟨α,λa m=>mV.mpr (.inl m),⟨λa o g m l=>X4.keep a o g m l,X4.ns,⟨[],(gy _).symm⟩,λa m=> .inl m⟩,z2▸T.cut T4 old,z1▸N3 T4 (.loc (b:=D) ea) (T.len▸e5)⟩
theorem Yd:vj ae w ag xq:=λh h4 α β σ k D L bL dt pv aq T T4 ea X4 e=>cw e λz1 z2=>⟨_,λa m=>m,X4,z2▸T4,z1▸ .loc ea⟩
theorem LV{fin:ah→Nat→aO×ah→Option (PV×ah)}(FO:vj ae w ag fin){pos ps:Pos}{z:Bool}{emit:Nat→CL}{body:Env→aI→Sem Unit}
 (EO:hF aa) (kC:z=true→ny cE=true) (hg:gens[0]? =some ⟨cE,dY,eK,0⟩) (O:ll scope aa tg) (hi:SI ae w ag n aa z (eval dY aa) it) (ht:∀C,ST ae w ag n (dZ scope C aa) (assign cE (dZ scope C aa)) bF) (qL:∀C,SB ae w ag n (dZ scope C aa) (jM eK (dZ scope C aa)) cv)
 (hb:∀C D k,SA ae w ag n (dZ scope C aa) D k (body (dZ scope C aa) D) (emit k))
 (qw:∀I D cS,qk (.ListComp cN gens scope pos) 0 (.ref I) (.ref D) cS=(do
  ig ps
  match←ik (.ref I)with
  |none=>pure (.done .next)
  |some v=>
   mQ cE (.ref I) v
   assign cE cS v
   let ok←jM eK cS
   if ok then body cS D
   again (.compLoop (.ListComp cN gens scope pos) 0 (.ref I) (.ref D) cS)))
 {A:bO} {s:aE} {α:Al} {pv:PV} {E:au→aE→Prop} (ho:fc n A) (R:RE ag s.heap aa α ρ) (T:RS ae w ag s.heap α σ) (e:runC z tg it bF cv emit fin ρ σ=some (pv,aq))
 {PP:au→aI→Result→aE→Prop} (q:∀D C h4 (tk:TK) m aD,cp aa.locals s.heap h4 α aD→RS ae w ag h4 aD aq→RV h4 aD (.ref D) pv→h4.Ns C m→C≠aa.locals→C∉own aD→ag.get? C=none→(∀x,aa.cells.lookup x≠some C)→(∀b o,s.heap.get? b=some o→b≠C)→PP (.ref D) C (.ok .next) {s with heap:=h4,toks:=tk.1,drawn:=tk.2}):
 aY (ba ae w) A (eval dY aa) (λx cV=>aY (ba ae w) A (ng x) (λit fF=>aY (ba ae w) A (newList []) (λacc qz=>aY (ba ae w) A (newFunctionEnv scope aa.globals (gu aa scope.names []) [] aa.qual none .none (some aa)) (λcS xH=>
  jQ (ba ae w) A (.compStart (.ListComp cN gens scope pos) 0 it acc {cS with scope:=relabel scope aa}) (PP acc cS.locals) xH) E qz) E fF) E cV) E s:=by
 obtain⟨⟨l,bj⟩,e1,e2⟩:=mK.mp e;obtain⟨⟨bL,dt⟩,e3,e4⟩:=mK.mp e2
 ·skip;refine hi A s α ρ σ l bj E _ ho R T e1 λI h' tk aD wr fp St X T' J hf g st=> ?_;have R':=R.ext X;refine wpAny_newList ?_ (by decide);have kp:=Kp.push aa.locals h' {cls:= .type "list",data:= .seq ([]:List au).toArray};have X1:cp aa.locals h' _ aD (aD++ [(h'.objs.size,h'.objs.size)]):=rB kp (fR _) (fR _) (lT R'.ns) (lT R'.ns);have Ij:((h'.push {cls:= .type "list",data:= .seq ([]:List au).toArray}).get? h'.objs.size).isSome=true:=by rw[u5];rfl
  have T1:=T'.add kp (fR _) (fR _) (lT R'.ns) (lT R'.ns) R'.dX R'.ns R'.L0 (o':= .list []) Ij Ij ⟨rfl,_,0,u5 ..,.nil⟩;have R1:=R'.ext X1;generalize BF:h'.push {cls:= .type "list",data:= .seq ([]:List au).toArray}=h1 at kp X1 Ij T1 R1⊢;have Hj:h1.objs.size=h'.objs.size+1:=by rw[←BF,gY]
  refine U4 λce rT aeL=> ?_;rw[rT,aeL];dsimp only;have up:∀b o,h1.get? b=some o→(qi (h1.push {cls:= .type "dict",data:= .dict #[]}) scope.names).get? b=some o:=λb o e=>Kl _ _ _ _ (cR _ e);have RC:=aaq R1 T1 O;have T2:=T1.mono up;generalize hh2:qi (h1.push {cls:= .type "dict",data:= .dict #[]}) scope.names=h2 at up RC T2⊢;have xh:∀b o,s.heap.get? b=some o→b<h1.objs.size:=λb o g=>by
   have:b<h'.objs.size:=by
    by_cases m:b∈own α
    ·obtain⟨o',g'⟩:=T8.mp (T'.there b (by clear T' st R' X1 T1 R1 RC T2;obtain⟨β,rfl⟩:=X.pre;exact mV.mpr (.inl m)));exact dy g'
    ·by_cases ml:b=aa.locals
     ·obtain⟨mm,N⟩:=R'.ns;rw[ml];exact N.lt
     ·exact dy (X.keep b o g m ml)
   rw[Hj];exact rd this
  have g2:=aas (o:= .list []) g;have fpI:∀b∈fp,b<h'.objs.size:=λb m=>let⟨_,o,e⟩:=J.there _ _ _ st b m;dy e;have wrI:∀b∈wr,b<h'.objs.size:=λb m=>let⟨o,e⟩:=J.xf _ _ _ st b m;dy e;have R7:St l h2 (aD++ [(h'.objs.size,h'.objs.size)]):=J.move l h' h2 aD _ _ st (λv p V=>V.ext (X1.trans ((Kp.of up).ext _)) R'.ns) (λb u o e=>(λb o e=>up b o (BF▸cR _ e)) b o e) (λb m q=>by
   rcases mV.mp q with q|q
   ·exact(J.there _ _ _ st b m).1 q
   ·refine aT (nY.mp q) λp hp hq=> ?_;rw[fz.mp hp]at hq;have:=fpI b m;rcases hq with hq|hq<;>exact gJ _ (hq▸this)) ⟨_,rfl⟩ T2 g2
  have Ik:(aD++ [(h'.objs.size,h'.objs.size)])[bj.length]? =some (h'.objs.size,h'.objs.size):=by
   rw[←T'.len];simp
  have Il: @pI Nat _ aa.locals h1.objs.size:=by obtain⟨mm,o,es,ep,g,_⟩:=R.ns;exact xh _ o g
  have aeM:∀{h:aF} {γ:Al},cp aa.locals s.heap h α γ→aa.locals∉own γ:=λY=>by obtain⟨mm,o,es,ep,g,_⟩:=R.ns;exact Y.mZ g R.dX
  have Lwr:aa.locals∉wr:=λm=>by obtain⟨mm,o,es,ep,g,_⟩:=R.ns;rw[hf _ (.inl m)]at g;exact aQ g
  have R8:∀b o,s.heap.get? b=some o→b≠(dZ scope h1.objs.size aa).locals:=λb o g z=>by
   have:=xh b o g;rw[z]at this;exact gJ _ this
  have rW:∀h h' γ,cp aa.locals s.heap h α γ→(∀a o,h.get? a=some o→a∉wr→h'.get? a=some o)→cp aa.locals s.heap h' α γ:=λh h' γ Y k=>
   ⟨λa o g m l=>k a o (Y.keep a o g m l) (λz=>(by rw[hf _ (.inl z)]at g;exact aQ g)),λm N=>(Y.ns m N).at' λo g=>k _ o g Lwr,Y.pre,Y.fresh⟩
  have rS:∀h h' γ tW,cp aa.locals s.heap h α γ→dN (dZ scope h1.objs.size aa) h h' γ tW→(∀y c,(dZ scope h1.objs.size aa).cells.lookup y=some c→c∉own tW)→cp aa.locals s.heap h' α tW:=λh h' γ tW Y Z u=>by
   refine⟨λa o g m l=>Z.keep a o (Y.keep a o g m l) (Y.mZ g m) (R8 a o g) ((λb o g u u=>xh b o g:∀b o,s.heap.get? b=some o→∀x,(dZ scope h1.objs.size aa).cells.lookup x=some b→ @pI Nat _ b (dZ scope h1.objs.size aa).locals) a o g),λm N=>(Y.ns m N).at' (λo g=>Z.keep _ o g (aeM Y) (λz=>(by have:=Il;rw[z]at this;exact gJ _ this)) λu u=>Il),?_,λa m=> ?_⟩
   ·refine bG Y.pre λβ z1=> ?_;refine bG Z.pre λH7 z2=> ?_;exact⟨β++H7,by rw[z2,z1,jo]⟩
   ·rcases Z.fresh a m with m|⟨m,_⟩
    ·exact Y.fresh a m
    ·by_cases ma:a∈own α
     ·exact .inl ma
     ·have hh:a≠aa.locals:=λz=>by
       refine bG R.ns λmm N=> ?_;refine ku (Y.ns mm N) λo es ep g u=> ?_;rw[z,g]at m;(first|exact aQ m|exact dA m)
      refine .inr ⟨?_,hh⟩;cases g:s.heap.get? a with
      |none=>rfl
      |some o=>rw[Y.keep a o g ma hh]at m;(first|exact aQ m|exact dA m)
  have Oa:∀b,(∃o,h'.get? b=some o)→b≠h1.objs.size:=λb ⟨o,g⟩ z=>by
   have: @pI Nat _ b h1.objs.size:=by rw[Hj];exact rd (dy g)
   exact gJ _ (z▸this: @pI Nat _ h1.objs.size h1.objs.size)
  have aau:∀x c,(dZ scope h1.objs.size aa).cells.lookup x=some c→ @pI Nat _ h1.objs.size c∨∃o,s.heap.get? c=some o:=λx c g=>by
   have g':(ju (h1.objs.size+1) scope.names (gu aa scope.names [])).lookup x=some c:=g;rw[sk,uK]at g';cases q:(ju (h1.objs.size+1) scope.names []).lookup x with
   |some d=>
    rw[q]at g';(refine cj g' λaL=> ?_;clear g';clear g;subst aL);have ok:=cellsFrom_ok scope.names (h1.push {cls:= .type "dict",data:= .dict #[]}) (h1.objs.size+1) [] ⟨λu u hm=>(nomatch hm),UE⟩ (by rw[gY];exact cH _);rw[gY]at ok;exact .inl (ok.empty _ _ (mem_of_lookup q)).2
   |none=>
    rw[q]at g';have e2:(gu aa scope.names []).lookup x=some c:=g';rcases u6 (mem_of_lookup e2)with z|⟨z,ec⟩
    ·cases z
    ·(refine aT (O.free _ z) λy aM k=> ?_;clear g g' q e2 z;subst aM);obtain⟨c',k1,_,_,_,vo,⟨o,k5,_⟩,_⟩:=R.lD y k;rw[k1]at ec;exact .inr ⟨o,by rw[ec];exact k5⟩
  have BE:∀x c,(dZ scope h1.objs.size aa).cells.lookup x=some c→c∉wr∧c∉fp:=λx c g=>by
   rcases aau x c g with z|⟨o,z⟩
   ·have ji:∀o,h'.get? c=some o→False:=λo g=>by
     have a1: @pI Nat _ c h1.objs.size:=by rw[Hj];exact rd (dy g)
     exact gJ _ (Di a1 z)
    exact⟨λm=>let⟨o,e⟩:=J.xf _ _ _ st _ m;ji o e,λm=>let⟨o,e⟩:=(J.there _ _ _ st _ m).2;ji o e⟩
   ·exact⟨λm=>(by rw[hf _ (.inl m)]at z;exact aQ z),λm=>(by rw[hf _ (.inr m)]at z;exact aQ z)⟩
  have loop:jQ (ba ae w) A (.compLoop (.ListComp cN gens scope pos) 0 (.ref I) (.ref h'.objs.size) (dZ scope h1.objs.size aa)) (PP (.ref h'.objs.size) h1.objs.size) {s with heap:=h2,toks:=tk.1,drawn:=tk.2}:=by
   refine LU (Ls O) (ht _) (qL _) (hb _ h'.objs.size bj.length) (qw _ _ _) ho J kC (RX:=λh γ=>cp aa.locals s.heap h α γ) rW rS (⟨λm=>Oa _ (J.xf _ _ _ st _ m) rfl,λm=>Oa _ (J.there _ _ _ st _ m).2 rfl⟩) BE (s:=s) (m:=⟨h2,tk,_⟩) (r:=(bL,dt)) ⟨((X.trans X1).trans ((Kp.of up).ext _):cp aa.locals s.heap h2 α (aD++ [(h'.objs.size,h'.objs.size)])),⟨[],(gy _).symm⟩,RC,T2,g2,R7,Ik,e3⟩ λm4 X4 R4 T4 p4=> ?_;obtain⟨h4,mi,hW⟩:=m4;dsimp only at X4 R4 T4 p4;refine bG R4.ns λmC NC=> ?_;refine bG X4.pre λβ BG=> ?_;subst BG;have aeN:(α++β)[bj.length]? =some (h'.objs.size,h'.objs.size):=by
    (refine bG p4 λγ z=> ?_;clear p4);refine bG (fe.mp Ik) λzl u=> ?_;rw[z,jn zl];exact Ik
   refine l5 (FO _ _ _ _ _ _ _ _ _ _ _ _ T T4 aeN X4 e4) λaD jW X5 T5 V5=> ?_;refine q h'.objs.size h1.objs.size h4 mi mC aD X5 T5 V5 NC (λz=>gJ _ (z▸Il: @pI Nat _ h1.objs.size h1.objs.size)) ?_ ?_ ?_ R8
   ·exact λm=>R4.dX (jW _ m)
   ·cases g:ag.get? h1.objs.size with
    |none=>rfl
    |some o=>exact bP ((λb o g=>xh b o (T.base b o g)) _ o g) (gJ _)
   ·intro x z;obtain⟨_,vo,o,g,_⟩:=R.z9 EO z;exact gJ _ (xh _ o g)
  exact JE hg rfl loop (J.self l _ (aD++ [(h'.objs.size,h'.objs.size)]) _ _ R7 loop)
end
noncomputable def ph(it:CI)(bF:CT)(cv:CB)(em:CL):CL:=λρ σ=>(it ρ σ).bind λr=>hG false 0 bF cv em r.1 ρ r.2
section
variable{ae:bw}{w:br}{ag:aF}{K:Frag}{n:Nat}{aa:Env}
theorem OT{pos:Pos}(I D:aI)(cS:Env):qk (.ListComp cN [⟨cE,dY,eK,0⟩] scope pos) 0 (.ref I) (.ref D) cS=(do
 ig dY.pos
 match←ik (.ref I)with
 |none=>pure (.done .next)
 |some v=>
  mQ cE (.ref I) v
  assign cE cS v
  let ok←jM eK cS
  if ok then(do let _←call (.builtin "list.append") [.ref D,←eval cN cS])
  again (.compLoop (.ListComp cN [⟨cE,dY,eK,0⟩] scope pos) 0 (.ref I) (.ref D) cS)):=by rfl
noncomputable def zS(e:a6)(dY:a6)(cS:Env)(D:aI):Sem Unit:=do
 let x←eval dY cS
 ig dY.pos
 let x←qa dY cS x
 let _←runOwn (.compStart e 1 (←holding [x] (ng x)) (.ref D) cS) cS
theorem Ob{nZ lu:a6}{pQ:List a6}{pos:Pos}(I D:aI)(cS:Env):qk (.ListComp cN [⟨cE,dY,eK,0⟩,⟨nZ,lu,pQ,0⟩] scope pos) 0 (.ref I) (.ref D) cS=(do
 ig dY.pos
 match←ik (.ref I)with
 |none=>pure (.done .next)
 |some v=>
  mQ cE (.ref I) v
  assign cE cS v
  let ok←jM eK cS
  if ok then zS (.ListComp cN [⟨cE,dY,eK,0⟩,⟨nZ,lu,pQ,0⟩] scope pos) lu cS D
  again (.compLoop (.ListComp cN [⟨cE,dY,eK,0⟩,⟨nZ,lu,pQ,0⟩] scope pos) 0 (.ref I) (.ref D) cS)):=by
 have e:qk (.ListComp cN [⟨cE,dY,eK,0⟩,⟨nZ,lu,pQ,0⟩] scope pos) 0 (.ref I) (.ref D) cS=(do
  ig dY.pos
  match←ik (.ref I)with
  |none=>pure (.done .next)
  |some v=>
   mQ cE (.ref I) v
   assign cE cS v
   let ok←jM eK cS
   if ok then
    let x←eval lu cS
    ig lu.pos
    let x←qa lu cS x
    let _←runOwn (.compStart (.ListComp cN [⟨cE,dY,eK,0⟩,⟨nZ,lu,pQ,0⟩] scope pos) 1 (←holding [x] (ng x)) (.ref D) cS) cS
   again (.compLoop (.ListComp cN [⟨cE,dY,eK,0⟩,⟨nZ,lu,pQ,0⟩] scope pos) 0 (.ref I) (.ref D) cS)):=by rfl
 rw[e];unfold zS;simp only[bind_assoc,pure_bind]
theorem aco{nZ lu:a6}{pQ:List a6}{pos:Pos}(I D:aI)(cS:Env):qk (.ListComp cN [⟨cE,dY,eK,0⟩,⟨nZ,lu,pQ,0⟩] scope pos) 1 (.ref I) (.ref D) cS=(do
 ig lu.pos
 match←ik (.ref I)with
 |none=>pure (.done .next)
 |some v=>
  mQ nZ (.ref I) v
  assign nZ cS v
  let ok←jM pQ cS
  if ok then(do let _←call (.builtin "list.append") [.ref D,←eval cN cS])
  again (.compLoop (.ListComp cN [⟨cE,dY,eK,0⟩,⟨nZ,lu,pQ,0⟩] scope pos) 1 (.ref I) (.ref D) cS)):=by rfl
theorem Ye(C:hF aa){pos ps:Pos}{em:CL}{body:Sem Unit}
 (hg:gens[1]? =some ⟨cE,dY,eK,0⟩) (hi:SI ae w ag n aa false (eval dY aa) it) (ht:ST ae w ag n aa (assign cE aa) bF) (qL:SB ae w ag n aa (jM eK aa) cv) (hb:SA ae w ag n aa D k body em)
 (qw:∀I,qk (.ListComp cN gens scope pos) 1 (.ref I) (.ref D) aa=(do
  ig ps
  match←ik (.ref I)with
  |none=>pure (.done .next)
  |some v=>
   mQ cE (.ref I) v
   assign cE aa v
   let ok←jM eK aa
   if ok then body
   again (.compLoop (.ListComp cN gens scope pos) 1 (.ref I) (.ref D) aa)))
 (hs:∀x,qa dY aa x=pure x):SA ae w ag n aa D k (zS (.ListComp cN gens scope pos) dY aa D) (ph it bF cv em):=λA s α ρ σ ai aq E Q ho R T ea e q=>cy e λl bj e1 e2=>by
 unfold zS;refine aB (fD (hi A s α ρ σ l bj E (λv fF=>aY (ba ae w) A (runOwn (.compStart (.ListComp cN gens scope pos) 1 v (.ref D) aa) aa) (λy qz=>Q () qz) E fF) ho R T e1 λI h' tk aD wr fp St X T' J hf g st=>wpAny_runOwn ?_) (λx cV pM=>
  aB (oW (aB (Du (hs x) (aB (fA (fD pM (λv fF pN=>aB (fD pN (λy qz aeO=>a4 aeO) λy y z=>z)) λy y z=>z))))))) λy y z=>z)
 have out:∀{b},(∃o,s.heap.get? b=some o)→b∉wr∧b∉fp:=λh=>h.elim λo e=>⟨λm=>aQ ((hf _ (.inl m)).symm.trans e),λm=>aQ ((hf _ (.inr m)).symm.trans e)⟩;have L:=LU C (z:=false) (kz:=0) ht qL hb (qw I) ho J (λh=>cL h) (RX:=λh γ=>dN aa s.heap h α γ) (λh h' γ Y k=>Y.th k λb m=>hf b (.inl m)) (λh h' γ tW Y Z cn=>Y.trans Z cn) (out R.there) (λx c e=>out (R.Eu C e))
  (s:=s) (m:=⟨h',tk,aD⟩) ⟨X.st,⟨[],(gy _).symm⟩,R.ext X,T',rfl,st,w5 X.pre ea,e2⟩ (Rr:=λr s'=>match r with| .ok f=>Q () s'| .error e=>cameBackBy (ba ae w) A aa E e s') λm4 X4 R4 T4 y=>q m4.h m4.tk m4.α X4 R4 T4
 exact JE hg rfl L (J.self l _ aD _ _ st L)
theorem LW(O:ll scope aa tg):∀x∈scope.names,x.2= .local→scope.names.lookup x.1=some .local:=λx m e=>by
 obtain⟨y,k⟩:=x;subst e;exact O.xK _ _ m
theorem My{h:aF}{α:Al}(R:RE ag h aa α ρ)(O:ll scope aa tg):closureFor scope aa=pure (gu aa scope.names []):=V8 λy m=>by
 (refine aT (O.free y m) λx aM k=> ?_;clear m;subst aM);refine aT (R.lD x k) λc h1 z=> ?_;rw[h1];rfl
theorem Oc{fin:ah→Nat→aO×ah→Option (PV×ah)}(FO:vj ae w ag fin){av:List wD}{pos ps:Pos}{z:Bool}{emit:Nat→CL}{body:Env→aI→Sem Unit}
 (EO:hF aa) (kC:z=true→ny cE=true) (O:ll scope aa tg) (hi:SI ae w ag n aa z (eval dY aa) it) (ht:∀C,ST ae w ag n (dZ scope C aa) (assign cE (dZ scope C aa)) bF) (qL:∀C,SB ae w ag n (dZ scope C aa) (jM eK (dZ scope C aa)) cv)
 (hb:∀C D k,SA ae w ag n (dZ scope C aa) D k (body (dZ scope C aa) D) (emit k))
 (qw:∀I D cS,qk (.ListComp cN (⟨cE,dY,eK,0⟩::av) scope pos) 0 (.ref I) (.ref D) cS=(do
  ig ps
  match←ik (.ref I)with
  |none=>pure (.done .next)
  |some v=>
   mQ cE (.ref I) v
   assign cE cS v
   let ok←jM eK cS
   if ok then body cS D
   again (.compLoop (.ListComp cN (⟨cE,dY,eK,0⟩::av) scope pos) 0 (.ref I) (.ref D) cS)))
 (hs:∀x,qa dY aa x=pure x):SE ae w ag n aa (eval (.ListComp cN (⟨cE,dY,eK,0⟩::av) scope pos) aa) (runC z tg it bF cv emit fin):=by
 intro A s α ρ σ pv aq E Q ho R T e q;refine wpAny_comprehension_free (use:=none) rfl hs (My R O) O.kind (LW O) ?_;refine LV FO EO kC rfl O hi ht qL hb qw ho R T e (PP:=λacc C=>compPost (ba ae w) A E none Q acc C) λD C h4 tk m aD X4 T4 V4 N4 BH BI Im Io tF=>⟨m,N4,λh5 hs5=> ?_⟩;have k:∀a o,h4.get? a=some o→¬a=C→h5.get? a=some o:=λa o e l=>(hs5.2 a l).trans e;have hP:∀a o,a=C→h4.get? a=some o→Obj.gh o:=λa o e g=>Lb N4 (e▸g);exact q _ h5 tk aD ⟨λa o g m l=>k a o (X4.keep a o g m l) (tF a o g),λm N=>(X4.ns m N).at' λo g=>k _ o g BH.symm,X4.pre,X4.fresh⟩ (T4.nH k hP λa z=>z▸⟨BI,Im⟩) (((RV.nH (α:=aD) k hP).1) _ _ V4)
end
noncomputable def gZ(t:CB)(b:CS):Nat→CS
 |0,_,_=>none
 |n+1,ρ,σ=>(t ρ σ).bind λr=>if r.1=true then(b ρ r.2).bind λq=>match q.1 with
  | .next=>gZ t b n q.2.1 q.2.2
  | .cont=>gZ t b n q.2.1 q.2.2
  | .brk=>some (.next,q.2)
  | .ret v=>some (.ret v,q.2)
  else some (.next,ρ,r.2)
section
variable{ae:bw}{w:br}{ag:aF}{K:Frag}{n:Nat}{aa:Env}
structure WhI(ae:bw)(w:br)(ag H:aF)(aa:Env)(lr:Al)(t:CB)(b:CS)(r:Fl×aO×ah)(j:Nat)(m:Me)(ρ:aO)(σ:ah):Prop where
 X:dN aa H m.h lr m.α
 R:RE ag m.h aa m.α ρ
 T:RS ae w ag m.h m.α σ
 e:gZ t b j ρ σ=some r
theorem Yg(C:hF aa){test:a6}{pos:Pos}{t:CB}{b:CS}(N:Nat)(ht:SB ae w ag n aa (jS test aa (eval test aa)) t)(hb:SS ae w ag n aa (execs body aa) b):
 SS ae w ag n aa (exec (.While test body [] pos) aa) (gZ t b N):=λA s α ρ σ fl ai aq E Q ho R T e q=>by
 refine wpAny_While (codeAny_whileLoop (λj cV=>∃m aA bj,cV=atS s m∧WhI ae w ag s.heap aa α t b (fl,ai,aq) j m aA bj) (λj cV hj=>ku hj λm aA bj zs I=> ?_) N ⟨⟨s.heap,(s.toks,s.drawn),α⟩,ρ,σ,rfl,dN.refl ..,R,T,e⟩);rw[zs];cases j with
 |zero=>exact aQ I.e
 |succ j=>
  refine cy I.e λv dt e1 e2=>ht A _ m.α aA bj v dt _ _ ho I.R I.T e1 λh2 qM vT X2 T2=> ?_;have R2:=I.R.ext X2;have XX:dN aa s.heap h2 α vT:=I.X.trans X2.st (R2.cn C);cases v with
  |false=>exact iK ((aS wj).symm.trans e2) λz1 z2 z3=>Eq.mpr (aS wj) (CR (q .next h2 qM vT XX (z2▸R2) (z3▸T2) (z1▸ .next)))
  |true=>
   refine vL ((aP rfl).symm.trans e2) λf dw om e3 e4=>Eq.mpr (aP rfl) (hb A _ vT aA dt f dw om _ _ ho R2 T2 e3 λf' h3 gS iu X3 R3 T3 F=> ?_);have BJ:=XX.trans X3 (R3.cn C);cases F with
   |next=>exact⟨j,qb _,⟨h3,gS,iu⟩,dw,om,rfl,BJ,R3,T3,e4⟩
   |cont=>exact⟨j,qb _,⟨h3,gS,iu⟩,dw,om,rfl,BJ,R3,T3,e4⟩
   |brk=>exact iK e4 λz1 z2 z3=>q .next h3 gS iu BJ (z2▸R3) (z3▸T3) (z1▸ .next)
   |ret V=>exact iK e4 λz1 z2 z3=>q _ h3 gS iu BJ (z2▸R3) (z3▸T3) (z1▸ .ret V)
theorem Lu{fin:ah→Nat→aO×ah→Option (PV×ah)}(FO:vj ae w ag fin){av:List wD}{pos ps py tG:Pos}{x:String}{z:Bool}{emit:Nat→CL}{body:Env→aI→Sem Unit}
 (EO:hF aa) (kC:z=true→ny cE=true) (hn:SN ae w ag aa x) (O:ll scope aa tg) (hi:SI ae w ag n aa z (eval dY aa) it) (ht:∀C,ST ae w ag n (dZ scope C aa) (assign cE (dZ scope C aa)) bF) (qL:∀C,SB ae w ag n (dZ scope C aa) (jM eK (dZ scope C aa)) cv)
 (hb:∀C D k,SA ae w ag n (dZ scope C aa) D k (body (dZ scope C aa) D) (emit k))
 (qw:∀I D cS,qk (.ListComp cN (⟨cE,dY,eK,0⟩::av) scope pos) 0 (.ref I) (.ref D) cS=(do
  ig ps
  match←ik (.ref I)with
  |none=>pure (.done .next)
  |some v=>
   mQ cE (.ref I) v
   assign cE cS v
   let ok←jM eK cS
   if ok then body cS D
   again (.compLoop (.ListComp cN (⟨cE,dY,eK,0⟩::av) scope pos) 0 (.ref I) (.ref D) cS)))
 (hs:∀x,qa dY aa x=pure x) (pX:uO (.ListComp cN (⟨cE,dY,eK,0⟩::av) scope pos) (some (.Name (S x) py)) tG.line aa=pure true):
 SS ae w ag n aa (exec (.Assign [.Name (S x) py] (.ListComp cN (⟨cE,dY,eK,0⟩::av) scope pos) tG) aa) (bx x (runC z tg it bF cv emit fin)):=by
 intro A s α ρ σ fl ai aq E Q ho R T e q;(refine cy e λpv bj e1 e2=> ?_;clear e);(refine iK e2 λaL aM eG=> ?_;clear e2;subst aL aM eG);rw[exec_Assign_Name_used _ _ _ _ pX];refine aB (oW (aB ?_));refine aB (fD (wpAny_comprehension_free (use:=some (assign (.Name (S x) py) aa)) (Q:=λu s'=>Q .next s') rfl hs (My R O) O.kind (LW O) ?_) (λu s' hq=>a4 (a4 hq)) λu u e=>e);refine LV FO EO kC rfl O hi ht qL hb qw ho R T e1 (PP:=λacc C=>compPost (ba ae w) A E (some (assign (.Name (S x) py) aa)) (λu s'=>Q .next s') acc C) λD C h4 tk m aD X4 T4 V4 N4 BH BI Im Io tF=> ?_;refine assign_Name (hn A _ aD ρ _ _ pv E _ (R.ext X4) T4 V4 λh5 pV X5 R5 T5 u=> ?_);have N5:=N4.at' (λo g=>X5.keep C o g BI BH λx z=>bP z (Io x));refine⟨m,N5,λh6 hs6=> ?_⟩;have k:∀a o,h5.get? a=some o→¬a=C→h6.get? a=some o:=λa o e l=>(hs6.2 a l).trans e;have hP:∀a o,a=C→h5.get? a=some o→Obj.gh o:=λa o e g=>Lb N5 (e▸g);refine q .next h6 pV aD ?_ (R5.th (wr:= [C]) (λa o g l=>k a o g λz=>l (by simp[z])) ((RV.nH (α:=aD) k hP).1) (λz=>BH (fz.mp z).symm) λy c g z=>Io y (by rw[g,fz.mp z])) (T5.nH k hP λa z=>z▸⟨BI,Im⟩) .next
 have Z:=X4.ql X5;exact⟨λa o g m l c=>k a o (Z.keep a o g m l c) (tF a o g),Z.pre,Z.fresh⟩
end
variable{xs:Array au}
section
set_option genSizeOfSpec false
set_option genInjectivity false
def Kw(W:List aI)(h h':aF):Prop:=∀a o,h.get? a=some o→a∉W→h'.get? a=some o
theorem Kw.by{W:List aI}{h g g':aF}{a:aI}(K:Kw W h g)(e:uJ a g g')(m:a∈W):Kw W h g':=λc o q n=>e c o (λz=>n (z▸m)) (K c o q n)
theorem ly{P:aI→Prop}{a b c d:aI}(ha:P a)(hb:P b)(hc:P c)(hd:P d):∀x∈ [a,b,c,d],P x:=
 r9.mpr ⟨ha,r9.mpr ⟨hb,r9.mpr ⟨hc,r9.mpr ⟨hd,λz m=>nomatch m⟩⟩⟩⟩
structure Zd where
 z:aI
 TI:aI
 TO:aI
 i1:aI
 i2:aI
 t1:aI
 t2:aI
noncomputable abbrev Zd.wr(Z:Zd):List aI:= [Z.z,Z.TO,Z.i1,Z.i2]
noncomputable abbrev Zd.fp(Z:Zd):List aI:= [Z.z,Z.TI,Z.i1,Z.i2]
structure Zd.A(Z:Zd):Prop where
 oz:Z.TO≠Z.z
 az:Z.i1≠Z.z
 bz:Z.i2≠Z.z
 oa:Z.TO≠Z.i1
 ob:Z.TO≠Z.i2
 ab:Z.i1≠Z.i2
 nT:Z.TI∉Z.wr
 n1:Z.t1∉Z.wr
 n2:Z.t2∉Z.wr
structure Zd.S(Z:Zd)(h:aF)(f:au)(k:Nat):Prop where
 z:IsZip h Z.z Z.TI Z.TO f
 ti:km h Z.TI (.ref Z.i1) (.ref Z.i2)
 to:∃a b,km h Z.TO a b
 a:h.IsTupleIter Z.i1 Z.t1 k
 b:h.IsTupleIter Z.i2 Z.t2 k
section
variable{ae:bw}{w:br}{A:bO}{E:au→aE→Prop}{s:aE}
theorem zp{it t:aI}(hh:A.handled=none)(hit:s.heap.IsTupleIter it t i)(ht:s.heap.IsTuple t items)
 (hQ:∀x h',items[i]? =some x→h'.IsTupleIter it t (i+1)→uF it s.heap h'→Q x {s with heap:=h'})
 (hE:items[i]? =none→∀h' e,uJ it s.heap h'→(∃o,h'.get? e=some o∧o.cls= .type "StopIteration")→E (.ref e) {s with heap:=h'}):aY (ba ae w) A (yz (.ref it)) Q E s:=
 cY (id hit) λo ho hc hd=>ht.elim λol R9=>R9.2.2.elim λnl Ip=>by
 refine aB (q5 (name:=lg "__next__") hit.typeIs TS
  (kY TS hit.typeIs F.entry_tuple_iterator_next ?_ (F.args_tuple_iterator_next_1 _)))
 refine aB (m:=field (.ref it) 0) (mS ho hd (x:= .ref t) rfl ?_);refine aB (m:=field (.ref it) 1) (mS ho hd (x:= .int i 0) rfl ?_);refine aB (m:=seqItems? (.ref t)) (oU R9.1 Ip ?_);simp only[J1];cases hx:items[i]? with
 |some x=>
  exact aB (wpAny_setField ho hd (cH _) (a4 ⟨x,rfl,a4 (hQ x _ hx ⟨_,yA _ ho (Obj.isFreed_of_fields (Obj.data_mapFields hd _)),(Obj.cls_mapFields ..).trans hc,by
   rw[Obj.data_mapFields hd];simp[je]⟩ (yF ..))⟩))
 |none=>
  refine aB (rt (aB (wpAny_setField ho hd (bR _ _) ?_)));refine aB (m:=newExc (.type "StopIteration") []) ?_;refine aB (nP ?_ (by size_fits));refine aB (m:=firstArgMember _ _) (Du (a:=lh) (by first|rfl|(rfl)) ?_);refine nP ?_ (by size_fits);refine aB (wpAny_handled ?_)
  first|rw[show A.in1.handled=none from hh]|rw[hh]
  exact aB (a4 (wpAny_throw (hE hx _ _ (((yF ..).extBut.push _).push _) ⟨_,fP _ rfl,rfl⟩)))
theorem Ni{Z:Zd}{ys:Array au}{Q:Option au→aE→Prop}(hh:A.handled=none)(D:Z.A)(S:Z.S s.heap .none k)(l1:s.heap.IsTuple Z.t1 xs)(l2:s.heap.IsTuple Z.t2 ys)
 (hQ:∀x y h',xs[k]? =some x→ys[k]? =some y→Z.S h' (je s.heap.objs.size) (k+1)→km h' s.heap.objs.size x y→Kw Z.wr s.heap h'→Q (some (.ref s.heap.objs.size)) {s with heap:=h'})
 (hE:(xs[k]? =none∨ys[k]? =none)→∀h',Kw Z.wr s.heap h'→(∃a b,km h' Z.TO a b)→Q none {s with heap:=h'}):aY (ba ae w) A (ik (.ref Z.z)) Q E s:=by
 have hT:s.TypeIs (.ref Z.z) "zip":=⟨_,S.z,rfl⟩;refine aB (wF (q5 (name:=lg "__next__") hT CY (kY CY hT F.entry_zip_next ?_ (F.args_zip_next_1 _))));refine aB (m:=field (.ref Z.z) 2) (mS S.z rfl (x:= .bool false) rfl ?_);refine aB (m:=field (.ref Z.z) 3) (mS S.z rfl (x:= .ref Z.TI) rfl ?_);refine aB (oU S.ti rfl ?_);refine aB (m:=TJ (.ref Z.z)) ?_;refine aB (mS S.z rfl (x:= .none) rfl (a4 ?_));refine aB (rt ?_);refine aB (mS S.z rfl (x:= .ref Z.TO) rfl ?_);refine gM S.to λa b Sa=> ?_;refine aB (oP S.z (by simp) λg1 z1 e1=> ?_);have K1:Kw Z.wr s.heap g1:=Kw.by (λu u e u=>e) e1.extBut (.head _);refine aB ?_;show aY _ _ (forIn (_::_) _ _) _ _ _;rw[wy];refine aB (aB (wpAny_onRaise ?_));have stop:∀{g:aF} {e:aI},(xs[k]? =none∨ys[k]? =none)→Kw Z.wr s.heap g→IsZip g Z.z Z.TI Z.TO .ellipsis→(∃a b,km g Z.TO a b)→(∃o,g.get? e=some o∧o.cls= .type "StopIteration")→
  aY (ba ae w) A.in1 (setField (.ref Z.z) 0 .none) (λu s'=>aY (ba ae w) A (do if(←zA (.ref e) (.type "StopIteration"))then pure none else throw (.ref e)) Q E s') (λe s'=>aY (ba ae w) A (do if(←zA e (.type "StopIteration"))then pure none else throw e) Q E s') {s with heap:=g}:=λ{g e} Hk K z p he=>aT he λoe BK rT=>oP z (by simp) λg' u e'=>aB (yP (v:= .ref e) (T:="StopIteration") (b:=true) ⟨oe,e'.extBut _ _ (λx=>bP (Kt ((bV Obj.cls (c8 (z.symm.trans (x▸BK)))).trans rT)) (by decide)) BK,rT⟩ isSubtype_stop (a4 (hE Hk g' (K.by e'.extBut (.head _)) (gM p λa b q=>⟨a,b,e'.extBut _ _ D.oz q⟩))))
 refine aB (m:=yz (.ref Z.i1)) (zp hh (S.a.extBut e1.extBut D.az) (l1.at λo e=>K1 _ o e D.n1) (λx g2 hx j1 e2=>a4 ?_) λhx g2 e e2 he=> ?_)
 ·show aY _ _ _ _ _ {s with heap:=g2};have o2:km g2 Z.TO a b:=e2.extBut _ _ D.oa (e1.extBut _ _ D.oz Sa);refine aB (oU o2 rfl ?_);refine aB (wpAny_updateSeq_pair o2 λg3 o3 e3=> ?_);replace o3:km g3 Z.TO x b:=o3;have K3:=(K1.by e2.extBut (.tail _ (.tail _ (.head _)))).by e3.extBut (.tail _ (.head _))
  refine aB (wpAny_letGo (a4 ?_));refine aB (aB (wpAny_onRaise ?_));refine aB (m:=yz (.ref Z.i2)) (zp hh (((S.b.extBut e1.extBut D.bz).extBut e2.extBut D.ab.symm).extBut e3.extBut D.ob.symm) (l2.at λo e=>K3 _ o e D.n2) (λy g4 hy j2 e4=>a4 ?_) λhy g4 e e4 he=> ?_)
  ·show aY _ _ _ _ _ {s with heap:=g4};have K4:=K3.by e4.extBut (.tail _ (.tail _ (.tail _ (.head _))));have o4:km g4 Z.TO x b:=e4.extBut _ _ D.ob o3;refine aB (oU o4 rfl ?_);refine aB (wpAny_updateSeq_pair o4 λg5 o5 e5=> ?_);replace o5:km g5 Z.TO x y:=o5;have K5:=K4.by e5.extBut (.tail _ (.head _));refine aB (wpAny_letGo (a4 (a4 ?_)));refine aB (oU o5 rfl ?_);refine aB (wpAny_newTuple ?_);have sz:g5.objs.size=s.heap.objs.size:=e5.1.trans (e4.1.trans (e3.1.trans (e2.1.trans e1.1)));have z5:IsZip g5 Z.z Z.TI Z.TO .ellipsis:=e5.extBut _ _ D.oz.symm (e4.extBut _ _ D.bz.symm (e3.extBut _ _ D.oz.symm (e2.extBut _ _ D.az.symm z1)));refine aB (m:=Builtin.SmallTypes.ownedTupleHandOut (.ref Z.z) (.ref g5.objs.size)) ?_;refine aB (oP (cR _ z5:IsZip (g5.push {cls:= .type "tuple",data:= .seq #[x,y]}) Z.z Z.TI Z.TO .ellipsis) (by simp) λg7 z7 e7=> ?_);refine oP z7 (by simp) λg8 z8 e8=> ?_;have up:uJ Z.z g5 g8:=λc o c1 e=>e8.extBut _ _ c1 (e7.extBut _ _ c1 (cR _ e));have ne:g5.objs.size≠Z.z:=nU (dy z5);refine a4 ⟨_,rfl,a4 ?_⟩;exact sz▸hQ x y g8 hx hy ⟨sz▸z8,K5.by up (.head _) _ _ S.ti D.nT,⟨x,y,up _ _ D.oz o5⟩,(((j1.extBut e3.extBut D.oa.symm).extBut e4.extBut D.ab).extBut e5.extBut D.oa.symm).extBut up D.az,(j2.extBut e5.extBut D.ob.symm).extBut up D.bz⟩
    (sz▸(e8.extBut _ _ ne (e7.extBut _ _ ne (fP _ rfl)):km g8 g5.objs.size x y)) (K5.by up (.head _))
  ·exact stop (.inr hy) (K3.by e4 (.tail _ (.tail _ (.tail _ (.head _))))) (e4 _ _ D.bz.symm (e3.extBut _ _ D.oz.symm (e2.extBut _ _ D.az.symm z1))) ⟨_,_,e4 _ _ D.ob o3⟩ he
 ·exact stop (.inl hx) (K1.by e2 (.tail _ (.tail _ (.head _)))) (e2 _ _ D.az.symm z1) ⟨_,_,e2 _ _ D.oa (e1.extBut _ _ D.oz Sa)⟩ he
theorem acp{z TI TO T:aI}{Q:Unit→aE→Prop}(ht:ny cE=true)(hz:IsZip s.heap z TI TO (je T))(hQ:∀h',IsZip h' z TI TO .none→uF z s.heap h'→Q () {s with heap:=h'}):
 aY (ba ae w) A (mQ cE (.ref z) (.ref T)) Q E s:=by
 cases cE with
 |Tuple=>exact wpAny_letOwnedTupleGo_zip hz hQ
 |_=>exact cL ht
end
end
variable{e1 e2:a6}{c2:CE}
section
set_option genSizeOfSpec false
set_option genInjectivity false
noncomputable def qB(a b:List PV):List PV:=List.zipWith (λx y=> .tup [x,y]) a b
noncomputable def xM:PV→Option (List PV)
 | .tup l=>some l
 |_=>none
theorem Ac{p:PV}{l:List PV}(e:xM p=some l):p= .tup l:=by
 cases p with
 |tup=>exact bV PV.tup (c8 e)
 |_=>exact aQ e
def Hl:List PV→Option (List PV)
 | [p,q]=>(xM p).bind λa=>(xM q).bind λb=>some (qB a b)
 |_=>none
def oC(c1 c2:CE):CI:=λρ σ=>(eA [c1,c2] ρ σ).bind λr=>(Hl r.1).bind λl=>some (l,r.2++ [.c7])
theorem DP{a b:List PV}{p:PV}(ha:a[i]? =some p)(hb:b[i]? =some q):(qB a b)[i]? =some (.tup [p,q]):=by rw[Uu,ha,hb]
theorem Mz{a b:List PV}(h:a[i]? =none∨b[i]? =none):(qB a b)[i]? =none:=by
 rw[Uu];rcases h with h|h<;>rw[h]
 cases a[i]? <;>rfl
section
variable{ae:bw}{w:br}{ag:aF}{K:Frag}{n:Nat}{aa:Env}{Z:Zd}{kz k:Nat}{ps qs l:List PV}
structure Iq(Z:Zd)(kz k:Nat)(ps qs l:List PV)(h:aF)(α:Al):Prop where
 s:Z.S h .none k
 x:RV h α (.ref Z.t1) (.tup ps)
 y:RV h α (.ref Z.t2) (.tup qs)
 l:l=(qB ps qs).drop k
 own:∀b∈Z.fp,b∉own α
 pl:α[kz]? =some (Z.TO,Z.TO)
theorem Od(g:gd true kz σ=true):σ[kz]? =some .c7:=by
 unfold gd at g;cases h:σ[kz]? with
 |none=>rw[h]at g;exact cL g
 |some o=>
  rw[h]at g;cases o with
  |c7=>rfl
  |_=>exact cL g
theorem a7.gn{h:aF}{α:Al}{vs:Array au}(r:a7 h α vs.toList ps)(e:vs[i]? =none):ps[i]? =none:=p7 (r.size▸Array.getElem?_eq_none_iff.mp e)
theorem MA{h:aF}{t:aI}(P:h.IsTupleIter I t i)(e:h.get? I=some o):Obj.gh o:=cY P λo' g1 g2 g3=>c8 (g1.symm.trans e)▸(by unfold Obj.gh;rw[g3];dsimp only;rw[g2];simp)
theorem LX{h:aF}{α:Al}(S:Iq Z kz k ps qs l h α)(T:RS ae w ag h α σ)(g:gd true kz σ=true)(h0:∀b∈Z.wr,ag.get? b=none)(K:Kw Z.wr h h')(hp:∃x y,km h' Z.TO x y):RS ae w ag h' α σ∧(∀v p,RV h α v p→RV h' α v p):=by
 have hP:∀a o,a∈Z.wr→h.get? a=some o→a∈own α∨Obj.gh o:=λa o m=>ly (P:=λa=>h.get? a=some o→a∈own α∨Obj.gh o) (λe=> .inr (c8 (S.s.z.symm.trans e)▸(by unfold Obj.gh;simp))) (λu=> .inl (mW S.pl).1) (λe=> .inr (MA S.s.a e)) (λe=> .inr (MA S.s.b e)) a m;have to:∀c,c∈own α→c∈Z.wr→c=Z.TO:=λc m p=>ly (P:=λc=>c∈own α→c=Z.TO) (λm=>bP m (S.own _ (.head _))) (λu=>rfl) (λm=>bP m (S.own _ (.tail _ (.tail _ (.head _))))) (λm=>bP m (S.own _ (.tail _ (.tail _ (.tail _ (.head _)))))) c p m;refine⟨T.vM (P:=(· ∈Z.wr)) K hP h0 (λa m p=>gM hp λx y e=>(bV wA (to a m p▸e)).trans rfl) (λi a b o e1 e2 p=>cM (mW e1) λma mb=> ?_),(RV.vM (P:=(· ∈Z.wr)) K hP).1⟩;have hi:i=kz:=Classical.byContradiction λq=>have A:=apart_at T.apart e1 S.pl q;p.elim (λp=>A.1 (to a ma p)) λp=>A.2.2.1 (to b mb p);refine cw (S.pl.symm.trans (hi▸e1)) λz1 z2=> ?_;rw[c8 (e2.symm.trans (hi▸Od g)),←z1,←z2];exact⟨rfl,hp⟩
theorem Oe{A:bO}{s:aE}{α:Al}{E:au→aE→Prop}{Q:Option au→aE→Prop}(hh:A.handled=none)(D:Z.A)(S:Iq Z kz k ps qs l s.heap α)
 (hQ:∀x y p q h',(qB ps qs)[k]? =some (.tup [p,q])→a7 s.heap α [x,y] [p,q]→Z.S h' (je s.heap.objs.size) (k+1)→km h' s.heap.objs.size x y→Kw Z.wr s.heap h'→Q (some (.ref s.heap.objs.size)) {s with heap:=h'})
 (hE:(qB ps qs)[k]? =none→∀h',Kw Z.wr s.heap h'→(∃a b,km h' Z.TO a b)→Q none {s with heap:=h'}):aY (ba ae w) A (ik (.ref Z.z)) Q E s:=
 S.x.iT λt1 lG m1 z1 oF v r1=>S.y.iT λt2 lH m2 z2 gG v r2=>
  Ni hh D S.s (xs:=lG) (ys:=lH) (qd z1▸⟨_,oF,rfl,m1,rfl⟩) (qd z2▸⟨_,gG,rfl,m2,rfl⟩)
   (λx y h' e1 e2=>aT (r1.get' (gI.trans e1)) λp ep V=>aT (r2.get' (gI.trans e2)) λq eq U=>hQ x y p q h' (DP ep eq) (.cons V (.cons U .nil)))
   λe=>hE (Mz (e.imp r1.gn r2.gn))
theorem acq{A:bO}(ho:A.handled=none)(D:Z.A)(h0:∀b∈Z.wr,ag.get? b=none):It ae w ag A Z.z Z.wr Z.fp (λσ=>gd true kz σ=true) true (λl h α=>∃k ps qs,Iq Z kz k ps qs l h α)where
 there:=λl h α st=>rF st λk ps qs S b m=>⟨S.own b m,ly (P:=λb=>∃o,h.get? b=some o) ⟨_,S.s.z⟩ ⟨_,S.s.ti⟩ (S.s.a.elim λo g=>⟨o,g.1⟩) (S.s.b.elim λo g=>⟨o,g.1⟩) b m⟩
 xf:=λl h α st=>rF st λk ps qs S=>ly ⟨_,S.s.z⟩ (gM S.s.to λx y g=>⟨_,g⟩) (S.s.a.elim λo g=>⟨o,g.1⟩) (S.s.b.elim λo g=>⟨o,g.1⟩)
 move:=λl h h' α aD σ st rv K na pre T g=>rF st λk ps qs S=>
  have e:aD[kz]? =some (Z.TO,Z.TO):=pre.elim λβ z=>z▸((jn (fe.mp S.pl).1).trans S.pl)
  ⟨k,ps,qs,⟨K _ (.head _) _ S.s.z,K _ (.tail _ (.head _)) _ S.s.ti,(T.objs kz _ _ _ e (Od g)).2,S.s.a.at (K _ (.tail _ (.tail _ (.head _)))),S.s.b.at (K _ (.tail _ (.tail _ (.tail _ (.head _)))))⟩,rv _ _ S.x,rv _ _ S.y,S.l,na,e⟩
 item:=λp l s α σ E Q cE kC st T g q=>rF st λk ps qs S=>have d:=drop_cons S.l
  Oe ho D S (λx y px py h' e V S' N K E'=>acp (kC rfl) S'.z λdI z hs=>by
   have K':Kw Z.wr s.heap dI:=K.by hs.extBut (.head _);have pr:∃a b,km dI Z.TO a b:=gM S'.to λa b e=>⟨a,b,hs.extBut _ _ D.oz e⟩;have M:=LX S T g h0 K' pr;exact q (.ref s.heap.objs.size) dI (_,_) (c8 (e.symm.trans d.1)▸ .tup (n:=0) (hs.extBut _ _ (nU (dy S.s.z)) N) (kf T) (V.imp M.2)) ⟨k+1,ps,qs,⟨z,K' _ _ S.s.ti D.nT,pr,S'.a.extBut hs.extBut D.az,S'.b.extBut hs.extBut D.bz⟩,M.2 _ _ S.x,M.2 _ _ S.y,d.2,S.own,S.pl⟩ M.1 K' M.2)
   λe=>aQ (e.symm.trans d.1)
 done:=λs α σ E Q st T g q=>rF st λk ps qs S=>
  Oe ho D S (λx y px py h' e=>aQ ((p7 (drop_nil S.l)).symm.trans e)) λe h' K pr=>have M:=LX S T g h0 K pr;q h' (s.toks,s.drawn) M.1 K M.2
 self:=λl s α E Q st q=>rF st λk ps qs S=>Ka S.s.z q
noncomputable abbrev vU(h:aF)(t1:aI):aF:=h.push {cls:= .type "tuple_iterator",data:= .fields #[.ref t1,.int 0 0]}
abbrev x7(h:aF)(t1 t2:aI):aF:=(vU h t1).push {cls:= .type "tuple_iterator",data:= .fields #[.ref t2,.int 0 0]}
abbrev x8(h:aF)(t1 t2:aI):aF:=(x7 h t1 t2).push {cls:= .type "tuple",data:= .seq #[.ref h.objs.size,.ref (vU h t1).objs.size]}
abbrev vV(h:aF)(t1 t2:aI):aF:=(x8 h t1 t2).push {cls:= .type "tuple",data:= .seq #[.none,.none]}
abbrev oG(h:aF)(t1 t2:aI):aF:=(vV h t1 t2).push {cls:= .type "zip",data:= .fields #[.none,.bool false,.bool false,.ref (x7 h t1 t2).objs.size,.ref (x8 h t1 t2).objs.size]}
theorem Lv(t1 t2:aI)(xs ys:Array au):
 Meets (Builtin.«zip.__new__» ⟨[.type "zip",.ref t1,.ref t2],[]⟩) (λz R s=>s.heap.IsTuple t1 xs∧s.heap.IsTuple t2 ys∧R (.ok (.ret (.ref (vV s.heap t1 t2).objs.size))) {s with heap:=oG s.heap t1 t2}):=
 .of_wp λae w A R s h=>by
  obtain⟨hp,g,d,tk,os⟩:=s;obtain⟨rV,vW,h⟩:=h;have jW:=sub_zip;have Ir:Heap.IsTuple (Shared.heap ⟨hp.push {cls:= .type "tuple_iterator",data:= .fields #[.ref t1,.int 0 0]},g,d,tk,os⟩) t2 ys:=Heap.IsTuple.push vW _
  wp_walk using CA rV,CA Ir
  exact⟨_,rfl,h⟩
noncomputable abbrev x9(m:Nat)(t1 t2:aI):Zd:=⟨m+4,m+2,m+3,m+0,m+1,t1,t2⟩
theorem Qf(h:aF)(t1 t2:aI):(x9 h.objs.size t1 t2).S (oG h t1 t2) .none 0∧(∀c o,h.get? c=some o→(oG h t1 t2).get? c=some o)∧(vV h t1 t2).objs.size=h.objs.size+4:=by
 have z1:(vU h t1).objs.size=h.objs.size+1:=gY ..;have z2:(x7 h t1 t2).objs.size=h.objs.size+2:=(gY ..).trans (bV (· +1) z1);have z3:(x8 h t1 t2).objs.size=h.objs.size+3:=(gY ..).trans (bV (· +1) z2);have z4:(vV h t1 t2).objs.size=h.objs.size+4:=(gY ..).trans (bV (· +1) z3);have u4:∀{c o},(vV h t1 t2).get? c=some o→(oG h t1 t2).get? c=some o:=λx=>cR _ x;have u3:∀{c o},(x8 h t1 t2).get? c=some o→(oG h t1 t2).get? c=some o:=λx=>u4 (cR _ x);have u2:∀{c o},(x7 h t1 t2).get? c=some o→(oG h t1 t2).get? c=some o:=λx=>u3 (cR _ x);have u1:∀{c o},(vU h t1).get? c=some o→(oG h t1 t2).get? c=some o:=λx=>u2 (cR _ x);have g5:(oG h t1 t2).get? (vV h t1 t2).objs.size=some _:=fP _ rfl;have g4:=u4 (fP (x8 h t1 t2) (o:={cls:= .type "tuple",data:= .seq #[.none,.none]}) rfl);have g3:=u3 (fP (x7 h t1 t2) (o:={cls:= .type "tuple",data:= .seq #[.ref h.objs.size,.ref (vU h t1).objs.size]}) rfl);have g2:=u2 (fP (vU h t1) (o:={cls:= .type "tuple_iterator",data:= .fields #[.ref t2,.int 0 0]}) rfl);rw[z2,z3,z4]at g5;rw[z1,z2]at g3;rw[z3]at g4;rw[z1]at g2;exact⟨⟨g5,g3,⟨_,_,g4⟩,⟨_,(u1 (fP h (o:={cls:= .type "tuple_iterator",data:= .fields #[.ref t1,.int 0 0]}) rfl)),rfl,rfl⟩,⟨_,g2,rfl,rfl⟩⟩,λc o x=>u1 (cR _ x),z4⟩
theorem OU{t1 t2:aI}(l1:t1<m)(l2:t2<m):(x9 m t1 t2).A:=
 have ne:∀i j:Nat,i≠j→m+i≠m+j:=λi j q z=>q (JQ z);have nt:∀{t:aI},t<m→t∉(x9 m t1 t2).wr:=λq m=>bP q (eP.mpr (ly (P:=λb=>_≤b) (bR _ _) (bR _ _) (bR _ _) (bR _ _) _ m))
 ⟨ne 3 4 (by decide),ne 0 4 (by decide),ne 1 4 (by decide),ne 3 0 (by decide),ne 3 1 (by decide),ne 0 1 (by decide),λw=>ly (P:=λb=>m+2≠b) (ne 2 4 (by decide)) (ne 2 3 (by decide)) (ne 2 0 (by decide)) (ne 2 1 (by decide)) _ w rfl,nt l1,nt l2⟩
theorem a7.i2{G:Prop}{h:aF}{α:Al}{p:PV}(V:a7 h α vs [p,q])(k:∀v u,vs= [v,u]→RV h α v p→RV h α u q→G):G:=V.iC λv tV e a b=>b.i1 λu e2 c=>k v u (e2▸e) a c
theorem Nj{l:List PV}(e:Hl args=some l):∃a b,args= [.tup a,.tup b]∧l=qB a b:=by
 cases args with
 |nil=>exact aQ e
 |cons p r=>
  cases r with
  |nil=>exact aQ e
  |cons q r=>
   cases r with
   |nil=>exact c4 e λa e1 e=>c4 e λb e2 e=>⟨a,b,by rw[Ac e1,Ac e2],(c8 e).symm⟩
   |cons=>exact aQ e
theorem acr{p pos:Pos}{c1:CE}(G:GV ae w ag aa (.Name (S "zip") p) (.type "zip"))(hp: [e1,e2].all notStar=true)(ha:SL ae w ag n aa (spliced (g9 pos (fW [e1,e2] aa))) (eA [c1,c2])):
 SI ae w ag n aa true (eval (.Call (.Name (S "zip") p) [e1,e2] [] pos) aa) (oC c1 c2):=λA s α ρ σ l aq E Q ho R T e q=>cy e λargs bj ea eb=>c4 eb λl' ef eb=>cw eb λzl zs=>gD (Nj ef) λa b za zb=>
 Call_ (G A s E _ R.fn R.gl R.bu T.base (o6 (P:=λh=>∀b o,ag.get? b=some o→h.get? b=some o) (by rw[lO hp];rfl) oZ (nV hp (ha A s α ρ σ _ bj E _ ho R T ea λvs h' tk aD X T' V=>⟨T'.base,a7.i2 (vs:=vs) ((show args= [PV.tup a,PV.tup b]from za)▸V) λv u zv V U=>V.iT λt1 lG m1 w1 oF kD r1=>U.iT λt2 lH m2 w2 gG qN r2=>by
 rw[zv,w1,w2];have R':=R.ext X;refine callType_new F.called_zip (by decide) (F.typeCall_zip_2 _ _) (F.newCall_zip_2 _ _) (λobj=>F.args_object_init_3 obj _ _) F.entry_zip_new
  (Lv t1 t2 lG lH) ⟨⟨_,oF,rfl,m1,rfl⟩,⟨_,gG,rfl,m2,rfl⟩,?_⟩
 have Z:=Qf h' t1 t2;rw[Z.2.2];refine⟨⟨_,Z.1.z,rfl⟩,Ka Z.1.z ?_⟩;generalize oG h' t1 t2=H5 at Z⊢;have fresh:∀i:Nat,h'.get? (h'.objs.size+i)=none:=λi=>yy.mpr λo g=>bP (dy g) (eP.mpr (bR _ _));have nL:h'.objs.size+3≠aa.locals:=λz=>R'.there.elim λo g=>aQ ((fresh 3).symm.trans (z▸g));have kp:Kp aa.locals h' H5:=Kp.of Z.2.1;have X1:cp aa.locals h' H5 aD (aD++ [(h'.objs.size+3,h'.objs.size+3)]):=rB kp (fresh 3) (fresh 3) nL nL;have hs:(H5.get? (h'.objs.size+3)).isSome=true:=gM Z.1.to λy y g=>bV wA g;have no:∀i:Nat,i≠3→h'.objs.size+i∉own (aD++ [(h'.objs.size+3,h'.objs.size+3)]):=λi q m=>(mV.mp m).elim (λm=>cL ((bV wA (fresh i)).symm.trans (T'.there _ m))) λm=>q (JQ ((nY.mp m).elim λpr h=>have z:=fz.mp h.1;h.2.elim (λe=>e.trans (bV z0 z)) λe=>e.trans (bV wY z)));have BL:∀i:Nat,ag.get? (h'.objs.size+i)=none:=λi=>yy.mpr λo g=>aQ ((fresh i).symm.trans (T'.base _ o g));have sn:∀i:Nat,s.heap.get? (h'.objs.size+i)=none:=λi=>X.none T' R'.ns (fresh i);have kz:(bj++ [PO.c7]).length-1=bj.length:=by simp
 rw[←zs]at q;refine q (h'.objs.size+4) H5 tk _ _ _ _ (X.trans X1) (T'.add kp (fresh 3) (fresh 3) nL nL R'.dX R'.ns R'.L0 (o':= .c7) hs hs ⟨rfl,Z.1.to⟩) (acq (Z:=x9 h'.objs.size t1 t2) (kz:=(bj++ [PO.c7]).length-1) ho.1 (OU (dy oF) (dy gG)) (ly (BL 4) (BL 3) (BL 0) (BL 1))) (λb m=>m.elim (ly (P:=λb=>s.heap.get? b=none) (sn 4) (sn 3) (sn 0) (sn 1) b) (ly (P:=λb=>s.heap.get? b=none) (sn 4) (sn 2) (sn 0) (sn 1) b)) (by rw[kz];unfold gd;simp)
  ⟨0,a,b,Z.1,w1▸V.ext X1 R'.ns,w2▸U.ext X1 R'.ns,zl.symm.trans zb,ly (no 4 (by decide)) (no 2 (by decide)) (no 0 (by decide)) (no 1 (by decide)),?_⟩
 rw[kz,←T'.len,mJ (cH _)];simp⟩))))
end
end
def aO.cut(ρ:aO)(n:Nat):aO:=λx=>(ρ x).filter (PV.lt n)
open Classical in
def Hm(σ:ah)(q:Fl×aO×ah):Option (Fl×aO×ah):=if nh σ q.2.2 then(match q.1 with
 | .ret v=>if PV.lt σ.length v=true then some (.ret v,q.2.1.cut σ.length,q.2.2.take σ.length)else none
 |f=>some (f,q.2.1.cut σ.length,q.2.2.take σ.length))else none
def AG(it:CI)(bF:CT)(body:CS):CS:=λρ σ=>(it ρ σ).bind λr=>(eU true (r.2.length-1) bF body r.1 ρ r.2).bind λq=>Hm σ q
section
variable{ae:bw}{w:br}{ag:aF}{K:Frag}{n:Nat}{aa:Env}
theorem RE.cut{h:aF}{α β:Al}(R:RE ag h aa (α++β) ρ):RE ag h aa α (ρ.cut α.length)where
 fn:=R.fn
 gl:=R.gl
 bu:=R.bu
 loc:=by
  refine aT R.loc λm h1 h2=> ?_;refine⟨m,h1,λx v k e=> ?_⟩;refine cM (TZ.mp e) λe1 e2=> ?_;refine aT (h2 x v k e1) λval z1 z2=> ?_;exact⟨val,z1,z2.cut e2⟩
 lD x k:=by
  obtain⟨c,h1,h2,h3,h4,vo,h5,h6⟩:=R.lD x k;refine⟨c,h1,λm=>h2 (mV.mpr (.inl m)),h3,h4,vo,h5,λv e=> ?_⟩;refine cM (TZ.mp e) λe1 e2=> ?_;refine aT (h6 v e1) λval z1 z2=> ?_;exact⟨val,z1,z2.cut e2⟩
 apart:=R.apart
 dX:=λm=>R.dX (mV.mpr (.inl m))
 jg:=R.jg
theorem aav(C:hF aa){pos:Pos}(kC:ny cE=true)(hi:SI ae w ag n aa true (eval dY aa) it)(ht:ST ae w ag n aa (assign cE aa) bF)(hb:SS ae w ag n aa (execs body aa) cb)
 (hs:∀x,qa dY aa x=pure x):SS ae w ag n aa (exec (.For cE dY body [] pos) aa) (AG it bF cb):=λA s α ρ σ fl ai aq E Q ho R T e0 q=>cy e0 λl bj e1 e2=>vL e2 λQe bL dt e3 e4=>
 wpAny_For (hi A s α ρ σ l bj E _ ho R T e1 λI h' tk aD wr fp St X T' J hf g st=>
  Mx C ht hb ho (z:=true) (k:=bj.length-1) J (λy=>kC) R hf (s:=s) (m:=⟨h',tk,aD⟩) ⟨X.st,R.ext X,T',g,st,e3⟩ λf m2 X2 R2 T2 F=>gF e4 λold e4=>by
   obtain⟨h2,qM,vT⟩:=m2;refine X2.pre.elim λβ BG=> ?_;dsimp only at BG X2 R2 T2 F;subst BG;have XX:dN aa s.heap h2 α α:=⟨X2.keep,⟨[],(gy _).symm⟩,λa m=> .inl m⟩;have RR:=R2.cut;have TT:=T.cut T2 old;rw[T.len]at RR;cases F with
   |ret V=>exact gF e4 λhl e4=>iK e4 λz1 z2 z3=>q _ h2 qM α XX (z2▸RR) (z3▸TT) (z1▸ .ret (V.cut (T.len▸hl)))
   |next=>exact iK e4 λz1 z2 z3=>q .next h2 qM α XX (z2▸RR) (z3▸TT) (z1▸ .next)
   |brk=>exact iK e4 λz1 z2 z3=>q .brk h2 qM α XX (z2▸RR) (z3▸TT) (z1▸ .brk)
   |cont=>exact iK e4 λz1 z2 z3=>q .cont h2 qM α XX (z2▸RR) (z3▸TT) (z1▸ .cont)) hs
end
noncomputable def qx:CE:=λz σ=>some (.loc σ.length,σ++ [.aU []])
noncomputable def ua:List (String×CE)→aO→ah→Option (List (String×PV)×ah)
 | [],_,σ=>some ([],σ)
 |(x,c)::cs,ρ,σ=>(c ρ σ).bind λr=>(ua cs ρ r.2).bind λq=>some ((x,r.1)::q.1,q.2)
noncomputable def vk(cs:List (String×CE)):CE:=λρ σ=>(ua cs ρ (σ++ [.cZ []])).bind λr=>match r.2[σ.length]? with
 |some (.cZ [])=>some (.loc σ.length,r.2.set σ.length (.cZ r.1))
 |_=>none
noncomputable def sX(aa:Env)(pos:Pos):List (String×Nat×Pos)→List a6→List (Sem au×Sem au)
 |(x,k,p)::ks,v::vs=>(eval (.Constant (.str (S x)) k p) aa,do let x←eval v aa;ig pos;pure x)::sX aa pos ks vs
 |_,_=> []
noncomputable def BM(ae:bw)(w:br)(ag:aF)(n:Nat)(aa:Env):List (String×Nat×Pos)→List a6→List (String×CE)→Prop
 | [],[],[]=>True
 |(x,_,_)::ks,v::vs,(y,c)::cs=>(x=y∧mR (S x)=true)∧SE ae w ag n aa (eval v aa) c∧BM ae w ag n aa ks vs cs
 |_,_,_=>False
section
variable{ae:bw}{w:br}{ag:aF}{K:Frag}{n:Nat}{aa:Env}
theorem Lw(h:aF){K:Type} [DecidableEq K](knd:KeyKind ae w K):(h.push {cls:= .type "dict",data:= .dict #[]}).DictOf knd h.objs.size []:=UQ h
theorem MB{h:aF}{α:Al}(R:RE ag h aa α ρ)(T:RS ae w ag h α σ)(new:RO ae w (h.push {cls:= .type "dict",data:= .dict #[]}) (α++ [(h.objs.size,h.objs.size)]) h.objs.size h.objs.size o'):
 cp aa.locals h (h.push {cls:= .type "dict",data:= .dict #[]}) α (α++ [(h.objs.size,h.objs.size)])∧RS ae w ag (h.push {cls:= .type "dict",data:= .dict #[]}) (α++ [(h.objs.size,h.objs.size)]) (σ++ [o']):=by
 have kp:=Kp.push aa.locals h {cls:= .type "dict",data:= .dict #[]};have hs:((h.push {cls:= .type "dict",data:= .dict #[]}).get? h.objs.size).isSome=true:=by rw[fP _ rfl];rfl
 exact⟨rB kp (fR _) (fR _) (lT R.ns) (lT R.ns),T.add kp (fR _) (fR _) (lT R.ns) (lT R.ns) R.dX R.ns R.L0 hs hs new⟩
theorem notModules{h:aF}{α:Al}(T:RS ae w ag h α σ)(afH:jt<ag.objs.size)(e:ag.get? jt=some o):(h.objs.size==jt)=false:=by
 rw[kc];intro z;have:=dy (T.base _ _ e);rw[z]at this;exact gJ _ this
theorem aaw(iq:∃o,ag.get? jt=some o){pos:Pos}:SE ae w ag n aa (eval (.Dict [] [] pos) aa) qx:=by
 intro A s α ρ σ pv aq E Q ho R T e q;(refine cw e λaL aM=> ?_;clear e;subst aL aM);(refine bG iq λo eo=> ?_;clear iq);refine cM (MB (o':= .aU []) R T ⟨⟨rfl,notModules T (dy eo) eo⟩,[],Lw (ae:=ae) (w:=w) s.heap (jP ae w),rfl,.nil⟩) λX T'=> ?_;refine wpAny_Dict_empty (q _ _ (s.toks,s.drawn) _ X T' (.loc (b:=s.heap.objs.size) ?_));rw[←T.len,mJ (cH _)];simp
theorem MC{pos:Pos}:∀{ks:List (String×Nat×Pos)} {vs:List a6} {cs:List (String×CE)},BM ae w ag n aa ks vs cs→∀(A:bO) (s:aE) (α:Al) (ρ:aO) (σ:ah) (ps:List (String×PV)) (aq:ah) (E:au→aE→Prop) (Q:List (au×au)→aE→Prop),
 fc n A→RE ag s.heap aa α ρ→RS ae w ag s.heap α σ→ua cs ρ σ=some (ps,aq)→
 (∀kvs BN h' (tk:TK) aD,cp aa.locals s.heap h' α aD→RS ae w ag h' aD aq→Carries (strKind ae w) BN kvs→kvs.map (·.1)=ps.map (λp=>S p.1)→a7 h' aD (kvs.map (·.2)) (ps.map (·.2))→Q BN {s with heap:=h',toks:=tk.1,drawn:=tk.2})→
 aY (ba ae w) A (evalPairs (sX aa pos ks vs)) Q E s
 | [],[],[],_,A,s,α,ρ,σ,ps,aq,E,Q,ho,R,T,e,q=>by
  (refine cw e λaL aM=> ?_;clear e;subst aL aM);exact evalPairs_nil (q [] [] s.heap (s.toks,s.drawn) α (cp.refl ..) T trivial rfl .nil)
 |(x,k,p)::ks,v::vs,(y,c)::cs,h,A,s,α,ρ,σ,ps,aq,E,Q,ho,R,T,e,q=>by
  (refine pJ h λaL h1 h2=> ?_;clear h;obtain⟨rfl,hx⟩:=aL);(refine cy e λpv bj e1 e2=> ?_;clear e);(refine cy e2 λqG dt e3 e4=> ?_;clear e2);(refine cw e4 λaL aM=> ?_;clear e4;subst aL aM);refine evalPairs_cons (wpAny_Constant_str ?_);refine aB (h1 A _ α ρ σ pv bj E _ ho R T e1 λu h' tk aD X T' V=>aB (oW (a4 ?_)));have R':=R.ext X;refine MC h2 A _ aD ρ bj qG _ E _ ho R' T' e3 λkvs BN dI c6 d4 Y du C K V'=> ?_;exact q ((S x,u)::kvs) _ dI c6 d4 (X.trans Y) du ⟨zz ae w (S x) _,rfl,C⟩ (by simp[K]) (.cons (V.ext Y R'.ns) V')
 | [],[],_::_,h,_,_,_,_,_,_,_,_,_,_,_,_,_,_=>h.elim
 | [],_::_,_,h,_,_,_,_,_,_,_,_,_,_,_,_,_,_=>h.elim
 |_::_,[],_,h,_,_,_,_,_,_,_,_,_,_,_,_,_,_=>h.elim
 |_::_,_::_,[],h,_,_,_,_,_,_,_,_,_,_,_,_,_,_=>h.elim
theorem MD:∀{cs:List (String×CE)} {ρ:aO} {σ:ah} {ps:List (String×PV)} {aq:ah},ua cs ρ σ=some (ps,aq)→ps.map (·.1)=cs.map (·.1)
 | [],_,_,_,_,e=>by cases e;rfl
 |(x,c)::cs,ρ,σ,ps,aq,e=>by
  (refine cy e λpv bj e1 e2=> ?_;clear e);(refine cy e2 λqG dt e3 e4=> ?_;clear e2);(refine cw e4 λaL aM=> ?_;clear e4;subst aL aM);simp[MD e3]
theorem aax(iq:∃o,ag.get? jt=some o){keys:List (Option a6)}{values:List a6}{ks:List (String×Nat×Pos)}{cs:List (String×CE)}{pos:Pos}(h:BM ae w ag n aa ks values cs)
 (acs:(evalEachOpt keys aa).zip ((evalEach values aa).map λv=>do let x←v;ig pos;pure x)=(sX aa pos ks values).map λp=>(some p.1,p.2)) (h0:sX aa pos ks values≠ []) (bJ:(sX aa pos ks values).length≤15)
 (ya:(cs.map (·.1)).Nodup):SE ae w ag n aa (eval (.Dict keys values pos) aa) (vk cs):=by
 intro A s α ρ σ pv aq E Q ho R T e0 q;obtain⟨⟨ps,bj⟩,e1,e⟩:=mK.mp e0;clear e0;have e2:bj[σ.length]? =some (.cZ []):=by
  dsimp only at e;cases g:bj[σ.length]? with
  |none=>rw[g]at e;exact aQ e
  |some o=>cases o with
   |cZ l=>cases l with
    |nil=>rfl
    |cons=>rw[g]at e;exact aQ e
   |_=>rw[g]at e;exact aQ e
 ·dsimp only at e;rw[e2]at e;(refine cw e λaL aM=> ?_;clear e;subst aL aM);(refine bG iq λo eo=> ?_;clear iq);have hm:=notModules T (dy eo) eo;refine cM (MB (o':= .cZ []) R T ⟨⟨rfl,hm⟩,[],Lw (ae:=ae) (w:=w) s.heap (strKind ae w),rfl,.nil⟩) λX T'=> ?_;refine wpAny_Dict_pairs (knd:=strKind ae w) acs h0 bJ ?_;refine MC h A _ _ ρ _ ps bj E _ ho (R.ext X) T' e1 λkvs BN h' tk aD Y du C Kk V=> ?_;have ea:aD[σ.length]? =some (s.heap.objs.size,s.heap.objs.size):=by
   (refine bG Y.pre λβ aM=> ?_;clear Y du V;subst aM);rw[jo,←T.len,mJ (cH _)];simp
  obtain⟨_,Qg,D,e4,_⟩:=du.objs _ _ _ _ ea e2;have BA:Qg= []:=by
   cases Qg with
   |nil=>rfl
   |cons a b=>simp at e4
  clear e4;subst BA;refine⟨kvs,C,D,λdI D' hs=> ?_⟩;have R':=(R.ext X).ext Y;have hn:(kvs.map (·.1)).Nodup:=by
   rw[Kk,show ps.map (λp=>S p.1)=(ps.map (·.1)).map S by rw[kH];rfl,MD e1];exact List.pairwise_map.mpr (List.Pairwise.imp (λz w=>z (jz w)) ya)
  rw[merged_nil_of_nodup kvs hn]at D';obtain⟨Z,T3⟩:=Ed (o':= .cZ ps) R' du ea (λx o g ne=>(hs.2 x ne).trans g) (by obtain⟨o,es,ep,g,_⟩:=D';rw[g];rfl) λZ=>⟨⟨rfl,hm⟩,kvs,D',Kk,V.ext Z R'.ns⟩;exact q _ dI (_,_) aD ((X.trans Y).trans Z) T3 (.loc (b:=s.heap.objs.size) ea)
end
noncomputable def vx:List PV→Option Int
 | []=>some 0
 | .int i::l=>(vx l).map (i+·)
 |_=>none
def Hn:List PV→ah→Option (PV×ah):=λargs σ=>match args with
 | [.lst l]=>(vx l).map λi=>(.int i,σ)
 |_=>none
noncomputable def intOf:PV→Int
 | .int i=>i
 |_=>0
theorem ME:∀{l:List PV} {i:Int},vx l=some i→(∀p∈l,∃j,p= .int j)∧i=(l.map intOf).sum
 | [],i,e=>by cases e;exact⟨λp m=>(by cases m),rfl⟩
 |p::l,i,e=>by
  cases p with
  |int j=>
   (refine iX e λk e1 e2=> ?_;clear e);refine cM (ME e1) λh1 h2=> ?_;refine⟨λq m=> ?_,by rw[←e2,h2];rfl⟩;rcases cG.mp m with rfl|m
   ·exact⟨j,rfl⟩
   ·exact h1 q m
  |_=>exact aQ e
theorem preSum_eq(l:List PV):∀n,n≤l.length→preSum (λi=>intOf (l.getD i .none)) n=((l.take n).map intOf).sum:=by
 intro x0
 induction x0 with
 |zero=>exact λz=>rfl
 |succ n ih=>
  intro h;show preSum _ n+_=_;rw[(ih (cQ (b:=1) (ao h (bR _ 1)))),List.take_add_one,cF (h)];simp only[eX,(cF (show n<l.length by exact h)),Option.toList_some,mO,jq,Dj,yQ,List.sum_append,List.sum_cons,List.sum_nil,Int.add_zero]
section
variable{ae:bw}{w:br}{ag:aF}{K:Frag}{n:Nat}{aa:Env}
theorem acu:eh ae w ag n (.builtin "sum") Hn:=by
 intro A s α σ L vs args pv aq E Q ho N hL hz T V e q;cases V with
 |nil=>exact aQ e
 |cons V1 V2=>cases V2 with
  |cons=>cases V1<;>exact aQ e
  |nil=>cases V1 with
   | @lst a ws m l ht hn r=>
    (refine iX e λi e1 e2=> ?_;clear e);cases e2;refine cM (ME e1) λh1 h2=> ?_;have bJ:ws.size=l.length:=by rw[←r.length,gw]
    refine call_sum_walkG (CH (items:=ws) ⟨_,ht,rfl,m,rfl⟩ ⟨s.heap.objs.size,[s.heap.objs.size,a],[s.heap.objs.size],ws.size,λj v=>ws[j]? =some v,_,λj=>intOf (l.getD j .none),rfl,
     Walks.list (A:=A.in1) ho.1 s.heap.objs.size a (gK (dy ht)) ws,⟨⟨_,fP _ rfl,rfl,rfl⟩,⟨_,cR _ ht,rfl,m,rfl⟩⟩,λb mb=> ?_,λj v hv=> ?_,λh' tk t' k=> ?_⟩)
    ·rw[gY];simp only[cG,ff,fg]at mb;rcases mb with rfl|rfl
     ·exact qb _
     ·exact rd (dy ht)
    ·obtain⟨p,e3,V3⟩:=r.get' (i:=j) (v:=v) (by rw[gI];exact hv);(refine bG (h1 p (lM e3)) λx aM=> ?_;subst aM);cases V3 with
     |int _ t=>exact⟨t,by dsimp only;rw[eX,e3];rfl⟩
    ·have hs:preSum (λj=>intOf (l.getD j .none)) ws.size=i:=by
      rw[preSum_eq l ws.size (by rw[bJ];exact cH _),bJ,qc,h2]
     rw[hs];exact aah T (λb o g=>k b o (λmb=>by
      rw[fz.mp mb]at g;rw[fR]at g;exact aQ g) (cR _ g)) q (.int _ _) (tk,s.drawn)
   |_=>exact aQ e
theorem UR(r:aI)(a b c:Int)(t u v:Tok)(x:Int)(tk:Tok):
 Meets (Builtin.«range.__contains__» ⟨[.ref r,.int x tk],[]⟩) (λz R s=>vc s.heap r a b c t u v∧R (.ok (.ret (.bool (Jl a b c x).isSome))) s):=
 .of_wp λae w A R s h=>by
  obtain⟨hp,g,d,tk,os⟩:=s;obtain⟨hr,h⟩:=h
  wp_walk
  exact⟨_,rfl,h⟩
end
noncomputable def tm:PV→Option (Option Int)
 | .none=>some none
 | .int i=>some (some i)
 |_=>none
noncomputable def ni(l:List PV)(idx:List Nat):List PV:=idx.filterMap (l[·]?)
def Ex(l:List PV)(lo hi st:Option Int):List PV:=
 let b:=i8 lo hi (st.getD 1) l.length
 ni l ((dK (r7 b.1 b.2 (st.getD 1))).map λ(k:Nat)=>(b.1+(k:Int)*st.getD 1).toNat)
def rD(l:List PV)(lo hi st:Option Int):List PV:=
 let b:=mT lo hi st l.length
 ni l (qg b.1 b.2.1 b.2.2)
def jw(o a b c:CE):CE:=λρ σ=>(o ρ σ).bind λr=>(a ρ r.2).bind λx=>(b ρ x.2).bind λy=>(c ρ y.2).bind λz=>(tm x.1).bind λlo=>(tm y.1).bind λhi=>(tm z.1).bind λst=>
 if st=some 0 then none else match r.1 with
  | .tup l=>if(Ex l lo hi st).length≤100000 then some (.tup (Ex l lo hi st),z.2)else none
  | .lst l=>if l.length≤100000 then some (.lst (rD l lo hi st),z.2)else none
  |_=>none
theorem a7.pick{h:aF}{α:Al}(r:a7 h α vs ps):∀idx:List Nat,a7 h α (idx.filterMap (vs[·]?)) (ni ps idx):=by
 intro x0
 induction x0 with
 |nil=>exact .nil
 |cons i idx ih=>
  unfold ni at ih⊢;rw[Cz,Cz];cases q:ps[i]? with
  |none=>
   have:vs[i]? =none:=by rw[List.getElem?_eq_none_iff]at q⊢;rw[r.length];exact q
   rw[this];exact ih
  |some p=>
   refine aT (r.get q) λv e1 e2=> ?_;rw[e1];exact .cons e2 ih
theorem RV.part{h:aF}{α:Al}{p:PV}{k:Option Int}(V:RV h α v p)(e:tm p=some k):IsPart v k:=by
 cases V<;>(first|exact aQ e|exact dA e|exact cL e|exact pL e|(refine cj e λaL=> ?_;clear e;subst aL))
 ·exact .none
 ·exact .int _ _
section
variable{ae:bw}{w:br}{ag:aF}{K:Frag}{n:Nat}{aa:Env}
theorem Ve:SE ae w ag n aa (wK (evalOpt none aa)) cU:=by
 intro A s α ρ σ pv aq E Q ho R T e q;(refine cw e λaL aM=> ?_;clear e;subst aL aM);exact a4 (q _ s.heap (s.toks,s.drawn) α (cp.refl ..) T .none)
theorem aay{e:a6}{c:CE}(h:SE ae w ag n aa (eval e aa) c):SE ae w ag n aa (wK (evalOpt (some e) aa)) c:=h
theorem DQ{A:bO}{E:au→aE→Prop}{s:aE}{k:Option Int}{Q:Option Int→aE→Prop}(p:IsPart v k)(h:Q k s):aY (ba ae w) A (Builtin.Slice.slicePartIndex v) Q E s:=by
 cases p with
 |none=>exact slicePart_none h
 |int=>exact slicePart_int h
theorem VF{A:bO}{E:au→aE→Prop}{s:aE}{sl:aI}{vl vu vs:au}{lo hi st:Option Int}{n:Nat}{Q:Int×Int×Nat→aE→Prop}(hs:s.heap.IsSliceOf sl vl vu vs)(pl:IsPart vl lo)(pu:IsPart vu hi)(ps:IsPart vs st)(h0:st≠some 0)
 (h:Q ((i8 lo hi (st.getD 1) n).1,st.getD 1,r7 (i8 lo hi (st.getD 1) n).1 (i8 lo hi (st.getD 1) n).2 (st.getD 1)) s):
 aY (ba ae w) A (Builtin.Slice.sliceApplied (.ref sl) (pure (n:Int))) Q E s:=by
 refine cY (id hs) λos yb Sb vX=> ?_;refine aB (aB (mS yb vX (x:=vl) rfl (aB (mS yb vX (x:=vu) rfl (aB (mS yb vX (x:=vs) rfl (a4 ?_)))))));refine aB (DQ ps ?_);have ado:¬((st.getD 1==0)=true):=by
  cases st with
  |none=>decide
  |some c=>simpa using λz:c=0=>h0 (by rw[z])
 rw[aS ado];exact aB (DQ pl (aB (DQ pu (aB (a4 (a4 h))))))
theorem UA{A:bO}{E:au→aE→Prop}{s:aE}{t sl:aI}{vl vu vs:au}{lo hi st:Option Int}(ht:IsTup s.heap t items)(hs:s.heap.IsSliceOf sl vl vu vs)(pl:IsPart vl lo)(pu:IsPart vu hi)(ps:IsPart vs st)(h0:st≠some 0)
 (pick:List au) (hp:pick=((dK (r7 (i8 lo hi (st.getD 1) items.size).1 (i8 lo hi (st.getD 1) items.size).2 (st.getD 1))).filterMap λ(k:Nat)=>items[((i8 lo hi (st.getD 1) items.size).1+(k:Int)*st.getD 1).toNat]?))
 (h1:pick=items.toList→Q (.ref t) s) (h2:Q (.ref s.heap.objs.size) {s with heap:=s.heap.push {cls:= .type "tuple",data:= .seq pick.toArray}}) (hz:pick.length≤sM):
 aY (ba ae w) A (vd (.ref t) (.ref sl)) Q E s:=by
 refine cY (id hs) λos yb Sb vX=> ?_;unfold vd
 try with_reducible refine fA ?_
 first|refine aB (a4 ?_)|skip
 refine aB (wpAny_sequenceKey ht.typeIs (by decide) ?_);refine aB (q5 (name:=lg "__getitem__") ht.typeIs slot_tuple_getitem
  (kY slot_tuple_getitem ht.typeIs entry_tuple_getitem ?_ (args_tuple_getitem _ _)))
 show aY _ _ (Builtin.Tuple.tupleItemsOf (.ref t)>>=_) _ _ s;refine aB (tupleItemsOf_ ht ?_);refine aB (sq (⟨os,yb,Sb⟩) ?_);refine aB (VF hs pl pu ps h0 ?_);dsimp only;have EW:sizeOk (.seq pick.toArray):=by
  show pick.toArray.size≤sM;rw[si];exact hz
 generalize hb:i8 lo hi (st.getD 1) items.size=b at hp⊢;generalize hm:r7 b.1 b.2 (st.getD 1)=m at hp⊢;by_cases hw:(b.1==0&&st.getD 1==1&&m==items.size)=true
 ·rw[aP hw];simp only[ia,eF]at hw;(refine cM hw λaL w3=> ?_;clear hw;obtain⟨w1,w2⟩:=aL);have acv:pick=items.toList:=by
   rw[hp,w1,w2,w3];have:(λ(k:Nat)=>items[((0:Int)+(k:Int)*1).toNat]?)=(items[·]?):=by
    funext k;have:((0:Int)+(k:Int)*1).toNat=k:=by lia
    rw[this]
   rw[this,krv_all]
  refine aB ?_;refine aB (sq ht.typeIs (a4 ?_));exact aB (rt (aB (a4 (a4 ⟨_,rfl,a4 (h1 acv)⟩))))
 ·rw[aS hw,←hp]
  first
   |exact aB (m:=Cf _) (nP (a4 ⟨_,rfl,a4 h2⟩) EW)
   |exact aB (m:=Cf _) (nP (aB (a4 (a4 ⟨_,rfl,a4 h2⟩))) EW)
   |exact aB (aB (m:=Cf _) (nP (a4 (a4 ⟨_,rfl,a4 h2⟩)) EW))
end
section
variable{ae:bw}{w:br}{ag:aF}{K:Frag}{n:Nat}{aa:Env}
theorem WY{lower upper step:Option a6}{p:Pos}(o i:au):∃ops,subscripted (.Slice lower upper step p) false o i=operate ops (vd o i):=by
 cases step<;>exact⟨_,rfl⟩
theorem Yh{lower upper step:Option a6}{p pos:Pos}{o a b c:CE}(hv:SE ae w ag n aa (eval value aa) o)(ha:SE ae w ag n aa (wK (evalOpt lower aa)) a)(hb:SE ae w ag n aa (wK (evalOpt upper aa)) b)(hc:SE ae w ag n aa (wK (evalOpt step aa)) c):
 SE ae w ag n aa (eval (.Subscript value (.Slice lower upper step p) pos) aa) (jw o a b c):=by
 intro A s α ρ σ pv aq E Q ho R T e q;obtain⟨⟨r,bj⟩,e1,e2⟩:=mK.mp e;obtain⟨⟨x,dt⟩,e3,e4⟩:=mK.mp e2;obtain⟨⟨y,om⟩,e5,e6⟩:=mK.mp e4;obtain⟨⟨z,adp⟩,e7,e8⟩:=mK.mp e6;refine aT (mK.mp e8) λlo f1 e9=> ?_;refine aT (mK.mp e9) λhi f2 Sd=> ?_;refine aT (mK.mp Sd) λst f3 mw=> ?_;clear e e2 e4 e6 e8 e9 Sd;dsimp only at e3 e5 e7 f1 f2 f3 mw;by_cases h0:st=some 0
 ·exact aQ ((aP h0).symm.trans mw)
 ·have mw:=(aS h0).symm.trans mw;refine Subscript_ (hv A s α ρ σ r bj E _ ho R T e1 λv h' tk aD X T' V=> ?_);have R':=R.ext X;refine aB (ha A _ aD ρ bj x dt E _ ho R' T' e3 λvl h2 qM vT X2 T2 V2=>aB (fA ?_));have R2:=R'.ext X2;refine hb A _ vT ρ dt y om E _ ho R2 T2 e5 λvu h3 gS iu X3 T3 V3=>aB (fA ?_);have R3:=R2.ext X3;refine hc A _ iu ρ om z adp E _ ho R3 T3 e7 λvs h4 mi hW X4 T4 V4=> ?_;have R4:=R3.ext X4;have pl:=((V2.ext X3 R2.ns).ext X4 R3.ns).part f1;have pu:=(V3.ext X4 R3.ns).part f2;have ps:=V4.part f3;refine nP (T:="slice") (data:= .fields #[vl,vu,vs]) ?_;have kp:=Kp.push aa.locals h4 {cls:= .type "slice",data:= .fields #[vl,vu,vs]};have T5:=T4.kp kp R4.dX R4.ns R4.L0;have R5:=R4.ext (kp.ext hW);have X5:=(((X.trans X2).trans X3).trans X4).trans (kp.ext hW);have kS:=Heap.IsSliceOf.new h4 vl vu vs;have W5:=(((V.ext X2 R'.ns).ext X3 R2.ns).ext X4 R3.ns).ext (kp.ext hW) R4.ns;dsimp only;generalize h4.push {cls:= .type "slice",data:= .fields #[vl,vu,vs]}=h5 at kp T5 R5 X5 kS W5⊢;refine bG (@WY lower upper step p v (.ref h4.objs.size)) λops Qh=> ?_;have fresh:∀(ob:Obj),Kp aa.locals h5 (h5.push ob):=λob=>Kp.push _ _ _;cases W5 with
  | @tup t items m l ht hn rr=>
   refine gF mw λhz mw=> ?_;(refine cw mw λaL aM=> ?_;clear mw;subst aL aM);have bJ:items.size=l.length:=by rw[←rr.length,gw]
   have BO:a7 h5 hW ((dK (r7 (i8 lo hi (st.getD 1) items.size).1 (i8 lo hi (st.getD 1) items.size).2 (st.getD 1))).filterMap λ(k:Nat)=>items[((i8 lo hi (st.getD 1) items.size).1+(k:Int)*st.getD 1).toNat]?) (Ex l lo hi st):=by
    have:=rr.pick ((dK (r7 (i8 lo hi (st.getD 1) l.length).1 (i8 lo hi (st.getD 1) l.length).2 (st.getD 1))).map λ(k:Nat)=>((i8 lo hi (st.getD 1) l.length).1+(k:Int)*st.getD 1).toNat);rw[List.filterMap_map]at this;rw[bJ];have e:((λx=>items.toList[x]?)∘λ(k:Nat)=>((i8 lo hi (st.getD 1) l.length).1+(k:Int)*st.getD 1).toNat)=λ(k:Nat)=>items[((i8 lo hi (st.getD 1) l.length).1+(k:Int)*st.getD 1).toNat]? :=by
     funext k;exact gI ..
    rw[e]at this;exact this
   refine uZ (IsT.isTup ht).typeIs slot_tuple_getitem.lookup (UA (IsT.isTup ht) kS pl pu ps h0 _ rfl (λew=> ?_) ?_ ?_) Qh
   ·rw[ew]at BO;exact q _ h5 _ hW X5 T5 (.tup ht hn BO)
   ·have kq:=fresh {cls:= .type "tuple",data:= .seq (KV ((dK (r7 (i8 lo hi (st.getD 1) items.size).1 (i8 lo hi (st.getD 1) items.size).2 (st.getD 1))).filterMap λ(k:Nat)=>items[((i8 lo hi (st.getD 1) items.size).1+(k:Int)*st.getD 1).toNat]?))};exact q _ _ _ hW (X5.trans (kq.ext hW)) (T5.kp kq R5.dX R5.ns R5.L0) (.tup (n:=0) (IsT.new ..) (kf T5) (BO.ext (kq.ext hW) R5.ns))
   ·rw[BO.length];exact ao hz (aK rfl)
  | @lst t items m l ht hn rr=>
   refine gF mw λhz mw=> ?_;(refine cw mw λaL aM=> ?_;clear mw;subst aL aM);have bJ:items.size=l.length:=by rw[←rr.length,gw]
   refine uZ (rq ht).typeIs slot_list_getitem.lookup (wpAny_getItem_list_slice (rq ht) kS pl pu ps h0 ?_ (by rw[bJ];exact ao hz (aK rfl))) Qh;have kq:=fresh {cls:= .type "list",data:= .seq (slicePick items lo hi st)};have this:=rr.pick (qg (mT lo hi st l.length).1 (mT lo hi st l.length).2.1 (mT lo hi st l.length).2.2);have e:(λ(x:Nat)=>items.toList[x]?)=λ(x:Nat)=>items[x]? :=by funext x;exact gI ..
   rw[e,←bJ]at this;refine q _ _ _ hW (X5.trans (kq.ext hW)) (T5.kp kq R5.dX R5.ns R5.L0) (.lst (n:=0) (u5 ..) (kf T5) ?_);have e2:rD l lo hi st=ni l (qg (mT lo hi st items.size).1 (mT lo hi st items.size).2.1 (mT lo hi st items.size).2.2):=by rw[bJ];rfl
   rw[e2];exact this.ext (kq.ext hW) R5.ns
  |_=>exact aQ mw
end
noncomputable def AH:lF:=λσ a b=>match a,b with
 | .lst l,.int x=>if 0≤x∧x≤100000∧l.length=1 then some (.loc σ.length,σ++ [.list (jI x.toNat l).flatten])else none
 |_,_=>none
noncomputable def xr:lF:=λσ a b=>match a,b with
 | .tup l,.int x=>if 2≤x∧x≤1000∧l.length=1 then some (.tup (jI x.toNat l).flatten,σ)else none
 |_,_=>none
theorem US:fillsNumberSlot (.type "tuple") "mul"=pure false:=
 PySem.fillsNumberSlot_seq (id:="tuple.__mul__") (r:=some (.builtin "tuple.__rmul__")) F.slot_tuple_mul.lookup (by decide+kernel) F.slot_tuple_rmul.lookup (by decide+kernel)
theorem Wa:seqRepeat? (.type "tuple")=pure (some (.builtin "tuple.__mul__")):=by
 rfl
theorem Vf(a:Int)(t:Tok)(l:aI)(items:Array au)(n:Nat):
 Meets (Builtin.«int.__rmul__» ⟨[.int a t,.ref l],[]⟩) (λz R s=>s.heap.get? l=some {cls:= .type "tuple",dict:=none,data:= .seq items n,slots:= #[]}∧R (.ok (.ret Value.notImplemented)) s):=
 .of_wp λae w A R s h=>by obtain⟨hp,g,d,tk,os⟩:=s;obtain⟨hl,h⟩:=h;wp_walk;exact⟨_,rfl,h⟩
theorem aaz(l:aI)(items:Array au)(n:Nat)(x:Int)(u:Tok)(h1:¬(x< -(2^63)||decide (x≥2^63))=true)(h2:¬(items.isEmpty||x==1)=true)(h3:¬(decide (x≤0)||items.isEmpty)=true)(h4:¬(items.size*x>(2^63-1)/8))(h5:¬Builtin.Tuple.tupleTooMany (items.size*x)=true)
 (h6:((jI x.toNat items).foldl (· ++·) #[]).size≤sM):
 Meets (Builtin.«tuple.__mul__» ⟨[.ref l,.int x u],[]⟩) (λz R s=>s.heap.get? l=some {cls:= .type "tuple",dict:=none,data:= .seq items n,slots:= #[]}∧R (.ok (.ret (bD s.heap.objs.size))) {s with heap:=s.heap.push {cls:=fV "tuple",data:=uX ((jI x.toNat items).foldl (· ++·) #[])}}):=
 .of_wp λae w A R s h=>by
  obtain⟨hp,g,d,tk,os⟩:=s;obtain⟨hl,h⟩:=h
  wp_walk
  rw[aS h1];refine aB (JW hl rfl ?_);dsimp only;rw[aS h2,aS h3,aS h4,aS h5];exact aB (m:=Cf _) (nP (a4 ⟨_,rfl,h⟩) h6)
theorem Nk{h:aF}{α:Al}(r:a7 h α vs ps):∀k:Nat,a7 h α (jI k vs).flatten (jI k ps).flatten:=by
 intro x0
 induction x0 with
 |zero=>simpa using a7.nil
 |succ k ih=>simpa [List.replicate_succ]using r.append (ih)
section
variable{ae:bw}{w:br}{ag:aF}{K:Frag}{n:Nat}{aa:Env}
theorem Yi:oj ae w ag n .Mult AH:=by
 intro A s α σ L v u a b pv aq E Q ho N hL hz T V U e q;cases V with
 | @lst a items m l ht hn r=>
  cases U with
  |int x t=>
   refine gF e λhc e=> ?_;(refine cw e λaL aM=> ?_;clear e;subst aL aM);have bJ:items.size=l.length:=by rw[←r.length,gw]
   (refine bG N λmm hm=> ?_;clear N);have fH:items.isEmpty=false:=by rw[TU];intro z;rw[z]at bJ;exact bP (bM hc.2.2.symm) (ry.mpr (bH (bM bJ.symm) 1))
   refine mul_list (m:=mm) ⟨hm,T.base,hz⟩ qh ht (dS (gV (by decide) hc.1)) (i9 hc.2.1 (by decide)) (by rw[bJ,hc.2.2];lia) λh' F' N'=> ?_;refine xC (aag T ⟨hm,T.base,hz⟩ hL F' N') λX T' g no=> ?_;have kp:=sy T.base ⟨hm,T.base,hz⟩ F' N' λp hp=> .tail _ hp;rw[fH]at g;have BP:s.heap.objs.size≠L:=λz=>by rw[←z]at hm;exact bP hm.lt (gJ _)
   have X1:cp L s.heap h' α (α++ [(s.heap.objs.size,s.heap.objs.size)]):=rB kp (fR _) (fR _) BP BP;have hs:(h'.get? s.heap.objs.size).isSome=true:=by rw[g];rfl
   refine q _ h' (s.toks,s.drawn) _ X1 (T.add kp (fR _) (fR _) BP BP hL ⟨mm,hm⟩ (pC hz) hs hs ⟨rfl,_,0,g,?_⟩) (.loc (b:=s.heap.objs.size) ?_)
   ·rw[listMul_foldl];exact(Nk r x.toNat).ext X1 ⟨mm,hm⟩
   ·rw[←T.len];simp
  |_=>exact aQ e
 |_=>exact aQ e
theorem Yj:oj ae w ag n .Mult xr:=by
 intro A s α σ L v u a b pv aq E Q ho N hL hz T V U e q;cases V with
 | @tup a items m l ht hn r=>
  cases U with
  |int x t=>
   refine gF e λhc e=> ?_;(refine cw e λaL aM=> ?_;clear e;subst aL aM);have h1:items.size=1:=by rw[(by rw[←r.length,gw]:items.size=l.length),hc.2.2]
   have fH:items.isEmpty=false:=by rw[TU];intro z;rw[z]at h1;simp at h1
   have kp:=Kp.push L s.heap {cls:= .type "tuple",data:= .seq ((jI x.toNat items).foldl (· ++·) #[])};refine wpAny_binaryOp_repeat_ref (T:="tuple") (U:="int") (by decide) ⟨_,ht,rfl⟩ (λs'=>typeIs_int s' x t) US F.fills_int_mul F.slot_int_rmul Wa F.slot_int_index.lookup
    (zB F.slot_int_rmul (typeIs_int s x t) F.entry_int_rmul (F.args_int_rmul_2 _ _) (Vf x t a items m)
     ⟨ht,rfl,⟨_,ht,rfl⟩,zB F.slot_tuple_mul ⟨_,ht,rfl⟩ F.entry_tuple_mul (F.args_tuple_mul_2 _ _) (aaz a items m x t ?_ ?_ ?_ ?_ ?_ ?_) ⟨ht,?_⟩⟩)
   ·simp only[uw,ja];exact not_or.mpr ⟨(lQ.mpr (dS (gV (by decide) hc.1))),(Int.not_le.mpr (i9 hc.2.1 (by decide)))⟩
   ·rw[fH];simp;exact Int.ne_of_gt (gV (by decide) hc.1)
   ·rw[fH];simp;exact gV (by decide) hc.1
   ·rw[h1];lia
   ·rw[h1,ja,qe];omega
   ·rw[listMul_foldl,si];have vW:=lm_len_rep_flat items.toList x.toNat;rw[(by rw[gw,h1]:items.toList.length=1)]at vW;have:(#[]:Array au).toList++(jI x.toNat items.toList).flatten=(jI x.toNat items.toList).flatten:=rfl;rw[vW,qe];omega
   ·refine q _ _ (s.toks,s.drawn) α (kp.ext α) (T.kp kp hL N (pC hz)) (.tup (n:=0) (IsT.new ..) (kf T) ?_);have e:((jI x.toNat items).foldl (· ++·) #[]).toList=(jI x.toNat items.toList).flatten:=by rw[listMul_foldl];simp
    rw[e];exact(Nk r x.toNat).ext (kp.ext α) N
  |_=>exact aQ e
 |_=>exact aQ e
end
noncomputable def kL:CS:=λz z=>none
noncomputable def Ho:gq:=λz a b=>match a,b with
 | .int i,.d7 x y=>some (decide (x≤i∧i<y))
 |_,_=>none
noncomputable def sO:gq:=λσ a b=>(Ho σ a b).map (!·)
noncomputable def lz(C:Nat)(g:List PV→ah→Option (PV×ah)):List PV→ah→Option (PV×ah):=λargs σ=>(g (.loc σ.length::args) (σ++ [.inst C []])).bind λr=>match r.1 with
 | .none=>some (.loc σ.length,r.2)
 |_=>none
def acw(K:Frag)(C:Nat)(fI:Nat):Prop:=makesIn K C=true∧jy K (.ref C) "__init__"=some (some (.ref fI))∧isFn K (.ref fI)=true
section
variable{ae:bw}{w:br}{ag:aF}{K:Frag}{n:Nat}{aa:Env}
theorem Nl{t:Sem Flow}:SS ae w ag n aa t kL:=λz z z z z z z z z z z z z e=>by cases e
theorem acx{h:ExceptHandler}{hs:List ExceptHandler}{pos:Pos}{c:CS}(hb:SS ae w ag n aa (execs body aa) c):SS ae w ag n aa (exec (.Try body (h::hs) [] [] pos) aa) c:=by
 intro A s α ρ σ fl ai aq E Q ho R T e q;refine wpAny_Try_except (hb A s α ρ σ fl ai aq _ _ ho R T e λf h' tk aD X R' T' F=> ?_);cases F with
 |next=>exact CR (q .next h' tk aD X R' T' .next)
 |brk=>exact q _ h' tk aD X R' T' .brk
 |cont=>exact q _ h' tk aD X R' T' .cont
 |ret V=>exact q _ h' tk aD X R' T' (.ret V)
theorem WZ{a b i:Int}:(Jl a b 1 i).isSome=decide (a≤i∧i<b):=by
 unfold Jl;simp only[(by decide:(1:Int)>0),if_true,Int.emod_one,nQ,Bool.and_true];by_cases h:a≤i∧i<b
 ·simp[h.1,h.2]
 ·by_cases ha:a≤i
  ·have hb:¬i<b:=λz=>h ⟨ha,z⟩;simp[ha,hb]
  ·simp[ha]
theorem KP{A:bO}{s:aE}{E:au→aE→Prop}{Q:Bool→aE→Prop}{r:aI}{a b i:Int}{t t1 t2 t3:Tok}(hr:vc s.heap r a b 1 t1 t2 t3)(q:Q (decide (a≤i∧i<b)) s):
 aY (ba ae w) A (contains (.ref r) (.int i t)) Q E s:=by
 have hT:s.TypeIs (.ref r) "range":=⟨_,hr,rfl⟩;unfold contains
 try with_reducible refine fA ?_
 refine aB (Km hT JG.lookup ?_);rw[aS (by rw[beq_builtin_none];exact wj)];refine aB (wpAny_callSpecialUnlessNone?_slot (name:=lg "__contains__") hT JG
  (zB JG hT F.entry_range_contains (F.args_range_contains_2 _ _) (UR r a b 1 t1 t2 t3 i t) ⟨hr,?_⟩))
 rw[WZ];exact oQ q
theorem aaA:fq ae w ag n .In Ho:=by
 intro A s α σ L v u a b r E Q ho N hL hz T V U e q;cases V with
 |int i t=>
  cases U with
  |d7 hr hn=>
   (refine cj e λaL=> ?_;clear e;subst aL);exact aB (KP hr (a4 (q (s.toks,s.drawn))))
  |_=>exact aQ e
 |_=>exact aQ e
theorem Wb:fq ae w ag n .NotIn sO:=by
 intro A s α σ L v u a b r E Q ho N hL hz T V U e q;cases V with
 |int i t=>
  cases U with
  |d7 hr hn=>
   (refine cj e λaL=> ?_;clear e;subst aL);exact aB (KP hr (a4 (q (s.toks,s.drawn))))
  |_=>exact aQ e
 |_=>exact aQ e
theorem acy(B:lW K ag){C fI:Nat}{g:List PV→ah→Option (PV×ah)}(hC:acw K C fI)(hf:n8 ae w ag n fI g):eh ae w ag (n+1) (.ref C) (lz C g):=by
 intro A s α σ L vs args pv aq E Q ho N hL hz T V e0 q;obtain⟨⟨rv,bj⟩,e1,e⟩:=mK.mp e0;cases rv with
 |none=>
  (refine cw e λaL aM=> ?_;clear e;subst aL aM);(refine bG N λmm hm=> ?_;clear N);have F:Fr ag L s.heap mm:=⟨hm,T.base,hz⟩;refine call_cls (news:=og ag s.heap L) F B.pS qh hC.1 hC.2.1 hC.2.2 λx dx h' F' N' dD Iu=> ?_;have kp:=sy T.base F F' N' λp hp=> .tail _ (.tail _ hp);have gx:=(N' (x,instObj C dx) (.head _));have gd:=(N' (dx,dictOf [] 0) (.tail _ (.head _)));have Qi:s.heap.get? dx=none:=by
   cases g:s.heap.get? dx with
   |none=>rfl
   |some o=>
    by_cases h0:ag.get? dx=none
    ·exact bP (dD _ (rA.mpr ⟨g,h0,gd.2.1⟩)) (gJ _)
    ·exact bP gd.2.2 h0
  have Se:s.heap.get? x=none:=by
   cases g:s.heap.get? x with
   |none=>rfl
   |some o=>
    by_cases h0:ag.get? x=none
    ·have:=dD _ (rA.mpr ⟨g,h0,gx.2.1⟩);exact bP (Di Iu this) (gJ _)
    ·exact bP gx.2.2 h0
  have X1:cp L s.heap h' α (α++ [(x,dx)]):=rB kp Se Qi gx.2.1 gd.2.1;have T1:RS ae w ag h' (α++ [(x,dx)]) (σ++ [.inst C []]):=T.add kp Se Qi gx.2.1 gd.2.1 hL ⟨mm,hm⟩ (pC hz) (gx.1▸rfl) (by rw[gd.1];rfl) ⟨λz=>by
   rw[z]at Iu;exact gJ _ Iu,gx.1,[],0,gd.1,trivial⟩
  have Vx:RV h' (α++ [(x,dx)]) (.ref x) (.loc σ.length):= .loc (b:=dx) (by rw[←T.len];simp);refine sr (hf (A.under _) {s with heap:=h'} (α++ [(x,dx)]) (σ++ [.inst C []]) L (.ref x::vs) _ .none _ (λe s'=>E e s') (λv s'=>v= .none∧Q (.ref x) s') ⟨ho.1,by have:=ho.2.1;show A.depth+1+8*n<1000;lia,by have:=ho.2.2;show A.units+1+40*n+200<9900;lia⟩ ⟨mm,F'.ns⟩ (X1.mZ (hm.choose_spec.choose_spec.choose_spec.1) hL) hz T1 (.cons Vx (V.ext X1 ⟨mm,hm⟩)) e1 λv dI tk d4 Y T2 V2=> ?_) λr s' z=> ?_
  ·(refine RV.iN V2 λaL=> ?_;clear V2;subst aL);exact⟨rfl,q (.ref x) dI tk d4 (X1.trans Y) T2 (Vx.ext Y ⟨mm,F'.ns⟩)⟩
  ·rcases r with e|(v|_|_|_)<;>first|exact z|exact z.elim|skip
 |_=>exact aQ e
end
noncomputable def subs:List Nat→List (List Nat)
 | []=> [[]]
 |a::l=>subs l++(subs l).map (a::·)
def jX(n:Nat):List (List Nat):=(subs (dK 8)).filter (·.length≤n)
noncomputable def vm(pl:List Nat)(j:Nat):SetTable.Slot:=match pl.idxOf? j with|some i=> .live i|none=> .empty
noncomputable def EX(place:Array Nat)(j:Nat):SetTable.Slot:=if place[jc place j]? ==some j then .live (jc place j)else .empty
noncomputable def vn(place:Array Nat)(j:Nat):List Nat:=(ur place (jc place j) j).toList
theorem W0:((jX 4).all λpl=>(dK 8).all λj=>EX pl.toArray j==vm pl j)=true:=by decide+kernel
theorem Yk:((jX 3).all λpl=>(dK 8).all λj=>pl.contains j||(((jX 4).contains (vn pl.toArray j))&&vn pl.toArray j==pl.take (jc pl.toArray j)++j::pl.drop (jc pl.toArray j)&&(jc pl.toArray j)≤pl.length))=true:=by decide+kernel
theorem Yl:((jX 4).all λpl=>(dK 8).any λj=> !pl.contains j)=true:=by decide+kernel
theorem sH:((jX 4).all λpl=>pl.all (· <8)&&pl.length≤4&&(pl.length==4||(jX 3).contains pl)&&decide pl.Nodup)=true:=by decide+kernel
noncomputable def cX(pl:List Nat)(led plain:Bool):sN:={mask:=7,place:=pl.toArray,dummies:= #[],finger:=0,led,moves:=0,plain}
theorem DR{pl:List Nat}(hp:pl∈jX 4)(hj:j<8)(led plain:Bool):(cX pl led plain).slot j=vm pl j:=by
 rw[←(by simpa using(fU.mp (fU.mp W0 pl hp) j (gW.mpr hj)):EX pl.toArray j=vm pl j)];unfold SetTable.slot EX cX;dsimp only;split
 ·rfl
 ·have:SetTable.has #[] j=false:=by rfl
  rw[this];rfl
noncomputable def dW(b:Nat):Nat→Nat×Nat
 |0=>(b%8,b)
 |k+1=>(((dW b k).1*5+1+(dW b k).2/32)%8,(dW b k).2/32)
theorem w6(b:Nat):∀k,(dW b k).1<8:=by
 intro x0
 induction x0 with
 |zero=>exact DG _ (by decide)
 |succ k ih=>exact DG _ (by decide)
theorem W2(b:Nat):∀k,(dW b k).2=b/32^k:=by
 intro x0
 induction x0 with
 |zero=>simp[dW]
 |succ k ih=>
  show(dW b k).2/32=_;rw[ih,Nat.div_div_eq_div_mul,Nat.pow_succ]
noncomputable def Iv:Nat→Nat→Nat
 |0,i=>i
 |m+1,i=>(Iv m i*5+1)%8
theorem aaB:((dK 8).all λi=>(dK 8).all λj=>(dK 8).any λm=>Iv m i==j)=true:=by decide+kernel
theorem W3{b:Nat}(hb:b<2^64):∀m,(dW b (13+m)).1=Iv m (dW b 13).1:=by
 intro x0
 induction x0 with
 |zero=>exact rfl
 |succ m ih=>
  have e:(dW b (13+(m+1))).1=((dW b (13+m)).1*5+1+(dW b (13+m)).2/32)%8:=rfl;rw[e,ih,W2];have z:b/32^(13+m)=0:=by
   apply Nat.div_eq_of_lt;refine yI hb ?_;have:(32:Nat)^13≤32^(13+m):=Nat.pow_le_pow_right (by decide) (bR _ _);lia
  rw[z];rfl
theorem Wc{b:Nat}(hb:b<2^64)(hj:j<8):∃k<21,(dW b k).1=j:=by
 refine aT (wq.mp (fU.mp (fU.mp aaB (dW b 13).1 (gW.mpr (w6 b 13))) j (gW.mpr hj))) λm hm e=> ?_;refine⟨13+m,by have:=gW.mp hm;lia,?_⟩;rw[W3 hb];simpa using e
theorem aaC(h:Int):dP h<2^64:=by
 unfold dP;have h1:(0:Int)<2^64:=by decide
 have:=Int.emod_lt_of_pos h h1;have:=Int.emod_nonneg h (Int.ne_of_gt h1);lia
theorem least{P:Nat→Prop}(N:Nat):P N→∃K,K≤N∧P K∧∀k<K,¬P k:=by
 induction N using Nat.strongRecOn with
 |ind N ih=>
  intro h;by_cases q:∃m,m<N∧P m
  ·(refine aT q λm hm hp=> ?_;clear q);refine aT (ih m hm hp) λK h1 h2=> ?_;exact⟨K,cQ (b:=1) (ao (ao (bH h1 1) hm) (bR _ 1)),h2⟩
  ·exact⟨N,cH _,h,λk hk hp=>q ⟨k,hk,hp⟩⟩
theorem We{pl:List Nat}(hp:pl∈jX 4)(h:Int):∃K,K<21∧(dW (dP h) K).1∉pl∧∀k<K,(dW (dP h) k).1∈pl:=by
 refine aT (wq.mp (fU.mp Yl pl hp)) λj hj e=> ?_;refine aT (Wc (aaC h) (gW.mp hj)) λk hk ek=> ?_;obtain⟨K,h1,h2,h3⟩:=least (P:=λn=>(dW (dP h) n).1∉pl) k (by rw[ek];exact(by simpa using e));exact⟨K,yH h1 hk,h2,λm hm=>yN.mp (h3 m hm)⟩
def iZ(b k:Nat):y0:={j:=(dW b k).1,more:=0,i:=(dW b k).1,perturb:=(dW b k).2,dummy:=none}
theorem Nn:SetTable.runEnd 7 i=i:=by unfold SetTable.runEnd;rw[aS (by exact ry.mpr (ao (bH (eH _) 8) (bR _ 1)))]
theorem W4(pl:List Nat)(led plain:Bool)(h:Int):(cX pl led plain).probeStart h=iZ (dP h) 0:=by
 unfold SetTable.probeStart iZ cX;simp only[Nn,uG,Nat.reduceAdd];rfl
theorem Np(pl:List Nat)(led plain:Bool)(b k:Nat):(cX pl led plain).advance (iZ b k)=iZ b (k+1):=by
 unfold SetTable.advance iZ cX;simp only[gJ,gt_iff_lt,if_false,SetTable.leap,Nn,uG,Nat.reduceAdd];rfl
theorem MF{pl:List Nat}(hp:pl∈jX 4)(led plain:Bool)(qp:Nat→Int)(h:Int){K:Nat}(hK:(dW (dP h) K).1∉pl)(hb:∀k<K,(dW (dP h) k).1∈pl):∀(d k hH:Nat),k+d=K→d<hH→
 (wk (cX pl led plain) qp h hH (iZ (dP h) k)=some (.empty (dW (dP h) K).1 none)∧∀m,k≤m→m<K→∀i,pl.idxOf? (dW (dP h) m).1=some i→qp i≠h)∨
 ∃m i,k≤m∧m<K∧pl.idxOf? (dW (dP h) m).1=some i∧qp i=h∧(∀m',k≤m'→m'<m→∀i,pl.idxOf? (dW (dP h) m').1=some i→qp i≠h)∧
  wk (cX pl led plain) qp h hH (iZ (dP h) k)=some (.candidate (dW (dP h) m).1 i (iZ (dP h) (m+1)))
 |d,k,0,_,hf=>bP (eH _) (ry.mpr hf)
 |0,k,hH+1,hk,_=>by
  left;have jj:k=K:=k7 (bM hk) (bM hk.symm);clear hb hk;subst jj;refine⟨?_,λm h1 h2=>bP h1 (ry.mpr h2)⟩;have:(cX pl led plain).slot (iZ (dP h) k).j= .empty:=by
   rw[DR hp (show(iZ (dP h) k).j<8 from w6 _ _)];unfold vm;have:pl.idxOf? (iZ (dP h) k).j=none:=Ud.mpr hK;rw[this]
  show Ji _ ((cX pl led plain).slot (iZ (dP h) k).j) _ _ _=_;rw[this];rfl
 |d+1,k,hH+1,hk,hf=>by
  have dJ:=hb k (ao (bH (bR _ _) 1) (bM hk));obtain⟨i,hi⟩:∃i,pl.idxOf? (dW (dP h) k).1=some i:=by
   cases q:pl.idxOf? (dW (dP h) k).1 with
   |none=>exact bP dJ (Ud.mp q)
   |some i=>exact⟨i,rfl⟩
  have hs:(cX pl led plain).slot (iZ (dP h) k).j= .live i:=by
   rw[DR hp (show(iZ (dP h) k).j<8 from w6 _ _)];unfold vm;have:pl.idxOf? (iZ (dP h) k).j=some i:=hi;rw[this]
  by_cases q:qp i=h
  ·right;refine⟨k,i,cH _,ao (bH (bR _ _) 1) (bM hk),hi,q,λm' h1 h2=>bP h1 (ry.mpr h2),?_⟩;show Ji _ ((cX pl led plain).slot (iZ (dP h) k).j) _ _ _=_;rw[hs];exact(aP (by simpa using q)).trans (by rw[Np];rfl)
  ·have e:wk (cX pl led plain) qp h (hH+1) (iZ (dP h) k)=wk (cX pl led plain) qp h hH (iZ (dP h) (k+1)):=by
    show Ji _ ((cX pl led plain).slot (iZ (dP h) k).j) _ _ _=_;rw[hs];exact(aS (by simpa using q)).trans (by rw[Np])
   rw[e];have AI:∀m',k≤m'→m'=k∨k+1≤m':=λm' h=>by lia
   rcases MF hp led plain qp h hK hb d (k+1) hH (k7 (ao (bM (fS _ 1 _)) (bM hk)) (ao (bM hk.symm) (bM (fS _ 1 _).symm))) (cQ (b:=1) hf)with⟨a,b⟩|⟨m,i',a,b,c,d',e',f⟩
   ·left;refine⟨a,λm h1 h2 i1 qO=> ?_⟩;rcases AI m h1 with z|z
    ·clear hk dJ hs e AI a b h1;subst z;rw[hi]at qO;(refine cj qO λaL=> ?_;clear qO;subst aL);exact q
    ·exact b m z h2 i1 qO
   ·right;refine⟨m,i',cQ (b:=1) (ao a (bR _ 1)),b,c,d',λm' h1 h2 i1 qO=> ?_,f⟩;rcases AI m' h1 with z|z
    ·clear hk dJ hs e AI a e' f h1;subst z;rw[hi]at qO;(refine cj qO λaL=> ?_;clear qO;subst aL);exact q
    ·exact e' m' z h2 i1 qO
section
variable{ae:bw}{w:br}{A:bO}{E:au→aE→Prop}{s:aE}
theorem W6{a:Int}{x:Str}{t u:Tok}{Q:Bool→aE→Prop}(h:Q false s):aY (ba ae w) A (eqBool (.int a t) (.str x u)) Q E s:=by
 refine fA ?_;exact aB (EqMixed.eq_int_str (oQ h))
theorem W7{a:Int}{x:Str}{t u:Tok}{Q:Bool→aE→Prop}(h:Q false s):aY (ba ae w) A (eqBool (.str x u) (.int a t)) Q E s:=by
 refine fA ?_;exact aB (EqMixed.eq_str_int (oQ h))
end
noncomputable abbrev MK:=Int⊕Str
noncomputable def adq:MK→au→Bool
 | .inl k,v=>mU k v
 | .inr x,v=>rl x v
noncomputable def Ad(ae:bw)(w:br):KeyKind ae w MK where
 is:=adq
 hash:=λk=>match k with| .inl k=>hashInt k| .inr x=>hashStr w x
 inj:=λv a b ha hb=>by
  cases a with
  |inl a=>cases b with
   |inl b=>rw[Value.isInt_inj v a b ha hb]
   |inr b=>
    obtain⟨t,rfl⟩:=lN (show mU a v=true from ha);obtain⟨u,e⟩:=q7 (show rl b (.int a t)=true from hb);cases e
  |inr a=>cases b with
   |inl b=>
    obtain⟨t,rfl⟩:=lN (show mU b v=true from hb);obtain⟨u,e⟩:=q7 (show rl a (.int b t)=true from ha);cases e
   |inr b=>rw[Value.isStrOf_inj v a b ha hb]
 byValue:=λk v h=>by
  cases k with
  |inl k=>exact(jP ae w).byValue k v h
  |inr x=>exact(strKind ae w).byValue x v h
 pyHash:=λ{A E s k v Q} h q=>by
  cases k with
  |inl k=>exact(jP ae w).pyHash (k:=k) h q
  |inr x=>exact(strKind ae w).pyHash (k:=x) h q
 eqBool:=λ{A E s a b u v Q} hu hv q=>by
  cases a with
  |inl a=>cases b with
   |inl b=>exact(jP ae w).eqBool (a:=a) (b:=b) hu hv (by simpa using q)
   |inr b=>
    obtain⟨t,rfl⟩:=lN (show mU a u=true from hu);obtain⟨t',rfl⟩:=q7 (show rl b v=true from hv);exact W6 (by simpa using q)
  |inr a=>cases b with
   |inl b=>
    obtain⟨t,rfl⟩:=lN (show mU b v=true from hv);obtain⟨t',rfl⟩:=q7 (show rl a u=true from hu);exact W7 (by simpa using q)
   |inr b=>exact(strKind ae w).eqBool (a:=a) (b:=b) hu hv (by simpa using q)
 «strs»:=λk x t v h=>by
  cases k with
  |inl k=>exact cL h
  |inr y=>exact(strKind ae w).«strs» y x t v h
noncomputable abbrev K3:=Int×String×Int
def K3.mk'(k:K3):List MK:= [.inl k.1,.inr (S k.2.1),.inl k.2.2]
noncomputable def K3.pv(k:K3):PV:= .tup [.int k.1,.str k.2.1,.int k.2.2]
theorem K3.mk_inj{a b:K3}(e:a.mk'=b.mk'):a=b:=by
 obtain⟨a1,a2,a3⟩:=a;obtain⟨b1,b2,b3⟩:=b;simp only[K3.mk',wx,Sum.inl.injEq,Sum.inr.injEq,and_true]at e;obtain⟨rfl,e,rfl⟩:=e;rw[jz e]
def d6(ae:bw)(w:br)(h:aF)(k:K3)(v:au):Prop:=∃a vs n,v= .ref a∧mR (S k.2.1)=true∧IsT h a vs n∧ItemsAre (Ad ae w) k.mk' vs.toList
theorem d6.key{ae:bw}{w:br}{h:aF}{k:K3}(x:d6 ae w h k v):∃a,v= .ref a∧IsTupleKey (Ad ae w) h k.mk' a:=by
 refine pK (x) λa vs n e z t i=> ?_;exact⟨a,e,_,vs,n,t,rfl,rfl,i⟩
theorem aaD{ae:bw}{w:br}{h:aF}{α:Al}{k:K3}(V:RV h α v k.pv):d6 ae w h k v:=
 V.iT λa vs n z ht y r=>r.iC λv1 r1 e1 V1 R1=>R1.iC λv2 r2 e2 V2 R2=>R2.i1 λv3 e3 V3=>V1.iI λt1 z1=>V2.iS λt2 z2 ok=>V3.iI λt3 z3=>
  ⟨a,vs,n,z,ok,ht,by
   rw[e1,e2,e3,z1,z2,z3];exact .cons (nQ k.1) (.cons (nQ (S k.2.1)) (.cons (nQ k.2.2) .nil))⟩
theorem d6.at{ae:bw}{w:br}{h:aF}{k:K3}(x:d6 ae w h k v)(kp:∀a o,v= .ref a→h.get? a=some o→h'.get? a=some o):d6 ae w h' k v:=by
 (refine pK (x) λa vs n eG o t r=> ?_;subst eG);exact⟨a,vs,n,rfl,o,kp a _ rfl t,r⟩
def eY(ae:bw)(w:br)(k:K3):Int:=tupleKeyHash (Ad ae w) k.mk'
section
variable{ae:bw}{w:br}{A:bO}{E:au→aE→Prop}{s:aE}
theorem aaE{k:K3}{Q:Int→aE→Prop}(hu:A.units<cLine)(x:d6 ae w s.heap k v)(h:∀tk,s.toks≤tk→Q (eY ae w k) {s with toks:=tk}):aY (ba ae w) A (pyHash v) Q E s:=by
 replace x:=x.key;obtain⟨a,rfl,x⟩:=x;exact wpAny_pyHash_tuple hu x (h _ (bR ..))
theorem ads{k k':K3}{v':au}{Q:Bool→aE→Prop}(hu:A.units<cLine)(x:d6 ae w s.heap k v)(y:d6 ae w s.heap k' v')(h:Q (decide (k=k')) s):aY (ba ae w) A (eqBool v v') Q E s:=by
 replace x:=x.key;obtain⟨a,rfl,x⟩:=x;replace y:=y.key;obtain⟨b,rfl,y⟩:=y;refine wpAny_eqBool_tuple hu x y ?_;have:decide (k.mk'=k'.mk')=decide (k=k'):=by
  by_cases e:k=k'
  ·clear h y;subst e;simp
  ·have:¬k.mk'=k'.mk':=λz=>e (K3.mk_inj z);simp[e,this]
 rw[this];exact h
theorem MG{k:K3}{Q:Bool→aE→Prop}(x:d6 ae w s.heap k v)(h:Q true s):aY (ba ae w) A (eqIsQuiet 8 v) Q E s:=by
 replace x:=x.key;obtain⟨a,rfl,x⟩:=x;exact wpAny_eqIsQuiet_tuple x h
theorem aaF{l:List MK}(h:ItemsAre (Ad ae w) l vs):∀v∈vs,(∃i t,v= .int i t)∨∃x t,v= .str x t:=by
 induction h with
 |nil=>intro v hv;cases hv
 | @cons k v' ks vs h1 _ ih=>
  intro v hv;rcases cG.mp hv with rfl|hv
  ·cases k with
   |inl k=>clear hv;obtain⟨t,rfl⟩:=lN (show mU k v=true from h1);exact .inl ⟨_,_,rfl⟩
   |inr x=>clear hv;obtain⟨t,rfl⟩:=q7 (show rl x v=true from h1);exact .inr ⟨_,_,rfl⟩
  ·exact ih v hv
set_option smartUnfolding false in
theorem MH{k:K3}{Q:Bool→aE→Prop}(x:d6 ae w s.heap k v)(h:Q false s):aY (ba ae w) A (J2 8 v) Q E s:=by
 replace x:=x.key;obtain⟨a,rfl,x⟩:=x;refine pK (x) λo items n ho z hd hi=> ?_;show aY _ _ (typeOf (.ref a)>>=_) _ _ _;refine aB (m:=typeOf (.ref a)) (sq x.typeIs ?_);refine aB (m:=if("tuple"=="tuple")=true then pure true else isSubtype (.type "tuple") (.type "tuple")) ?_;refine a4 ?_;refine aB (m:=seqItems? (.ref a)) (oU ho hd ?_);refine aB ?_;rw[←JX];refine Kb _ (λav r s'=>r.1=none∧s'=s∧∀v∈av,(∃i t,v= .int i t)∨∃x t,v= .str x t) _ ?_ ?_ _ _ ⟨rfl,rfl,(aaF hi)⟩
 ·rintro v av r s' ⟨hr,rfl,dU⟩;have e:J2 7 v=pure false:=by
   rcases dU v mM with⟨i,t,rfl⟩|⟨x,t,rfl⟩<;>rfl
  refine aB (m:=J2 7 v) ?_;rw[e];exact a4 (a4 ⟨rfl,rfl,λu hu'=>dU u (kF _ hu')⟩)
 ·rintro⟨r1,r2⟩ s' ⟨hr,rfl,_⟩;subst hr;exact a4 h
theorem Wf{k:K3}{Q:Bool→aE→Prop}(x:d6 ae w s.heap k v)(h:Q false s):aY (ba ae w) A (hashByValue 8 v) Q E s:=by
 replace x:=x.key;obtain⟨a,rfl,x⟩:=x;refine pK (x) λo items n ho z hd hi=> ?_;refine aB (Km x.typeIs F.slot_tuple_hash.lookup ?_);refine aB (oU ho hd ?_);refine aB ?_;show aY _ _ (forIn items _ _) _ _ s;rw[←JX];generalize items.toList=l at hi⊢;cases hi with
 |cons h1 hi=>
  cases hi with
  |cons h2 hi=>
   (refine bG (lN h1) λt aL=> ?_;subst aL);obtain⟨t',rfl⟩:=q7 h2;rw[wy];refine aB ?_;refine aB (a4 ?_);refine a4 ?_;dsimp only;rw[wy];refine aB ?_;refine aB (a4 ?_);exact a4 (a4 (a4 h))
end
noncomputable abbrev kj(es:Array (Int×au))(ep:Nat)(t:sN):Obj:={cls:= .type "set",data:= .set es ep t}
structure f7(ae:bw)(w:br)(h:aF)(a:aI)(led:Bool)(ks:List K3)(es:Array (Int×au))(ep:Nat)(plain:Bool)(pl:List Nat):Prop where
 at':h.get? a=some (kj es ep (cX pl led plain))
 mx:pl∈jX 4
 kT:es.size=pl.length
 pY:ks.length=pl.length
 item:∀(i:Nat) (k:K3),ks[i]? =some k→∃v,es[i]? =some (eY ae w k,v)∧d6 ae w h k v
 nodup:ks.Nodup
 way:∀(i:Nat) (k:K3) (j:Nat),ks[i]? =some k→pl[i]? =some j→∃n,(dW (dP (eY ae w k)) n).1=j∧∀m<n,(dW (dP (eY ae w k)) m).1∈pl
 MJ:plain=false∨ks= []
section
variable{ae:bw}{w:br}{A:bO}{E:au→aE→Prop}{s:aE}{a:aI}{led plain:Bool}{ks:List K3}{es:Array (Int×au)}{ep:Nat}{pl:List Nat}
theorem f7.state(X:f7 ae w s.heap a led ks es ep plain pl){Q:(Array (Int×au)×Nat×sN)→aE→Prop}(h:Q (es,ep,cX pl led plain) s):aY (ba ae w) A (u0 a) Q E s:=by
 have hf:(cX pl led plain).fits es.size=true:=by
  have h4:=fU.mp sH pl X.mx;simp only[ia,ja]at h4;have:pl.length≤4:=h4.1.1.2;simp only[SetTable.fits,cX,KD,si,X.kT,ia,nQ,ja,true_and];exact ao h4.1.1.2 (aK rfl)
 exact wpAny_setState_of X.at' rfl hf h
theorem f7.Hp(X:f7 ae w s.heap a led ks es ep plain pl):pl.length≤4:=by
 have h4:=fU.mp sH pl X.mx;simp only[ia,ja]at h4;exact h4.1.1.2
theorem DH{pl:List Nat}(e:pl.idxOf? j=some i):pl[i]? =some j:=by
 have h1:=Ue.mp e;(refine aT h1 λhi hj z=> ?_;clear h1);rw[cF hi,hj]
theorem f7.acz{x:au}{k:K3}(hx:d6 ae w s.heap k x)(hv:∀v∈vs,∃k,d6 ae w s.heap k v){Q:Bool→aE→Prop}(h:Q false s):aY (ba ae w) A (J3 x vs) Q E s:=by
 refine aB ?_;refine Kb _ (λav r s'=>r.1=none∧s'=s∧∀v∈av,∃k,d6 ae w s.heap k v) _ ?_ ?_ _ _ ⟨rfl,rfl,hv⟩
 ·rintro y av r s' ⟨hr,rfl,dU⟩;refine bG (dU y mM) λk' hy=> ?_;have rX:=hx.key;have vP:=hy.key;(refine aT rX λax aM u=> ?_;clear rX;subst aM);(refine aT vP λay aM u=> ?_;clear vP;subst aM);dsimp only;have tl:∀v∈av,∃k,d6 ae w s'.heap k v:=λv hv=>dU v (kF _ hv);by_cases q:ax=ay
  ·clear dU hy;subst q;exact kG (λu=>a4 ⟨rfl,rfl,tl⟩) λz=>bP (by rw[nQ];rfl) z
  ·have q':(ax==ay)=false:=kc.mpr q;refine kG (λz=>cL (by rw[q']at z;exact z)) λu=> ?_;refine aB (MG hx ?_);refine aB (MG hy ?_);refine aB (MH hx ?_);refine aB (MH hy ?_);exact a4 ⟨rfl,rfl,tl⟩
 ·rintro⟨r1,r2⟩ s' ⟨hr,rfl,_⟩;have hr:r1=none:=hr;subst hr;exact a4 h
theorem f7.keyOf(X:f7 ae w s.heap a led ks es ep plain pl)(e:pl[i]? =some j):∃k v,ks[i]? =some k∧es[i]? =some (eY ae w k,v)∧d6 ae w s.heap k v:=by
 refine bG (fe.mp e) λhi z=> ?_;have hk:i<ks.length:=by rw[X.pY];exact hi
 refine aT (X.item i ks[i] (cF hk)) λv h1 h2=> ?_;exact⟨_,v,cF hk,h1,h2⟩
theorem f7.aaG(X:f7 ae w s.heap a led ks es ep plain pl)(h:Int):∀v∈((es.filter λe=>e.1==h).toList.map λe=>e.2),∃k,d6 ae w s.heap k v:=by
 intro v hv;(refine aT (dR.mp hv) λe he aM=> ?_;subst aM);rw[Array.toList_filter]at he;have BC:=(ib.mp he).1;refine bG (Cv BC) λi hi=> ?_;refine bG (fe.mp hi) λj0 z=> ?_;have hp:i<pl.length:=by rw[←X.kT];exact j0
 refine tx (X.keyOf (cF hp)) λk v' h1 h2 h3=> ?_;rw[←gI,hi]at h2;(refine cj h2 λaL=> ?_;clear h2;clear he hv BC hi;subst aL);exact⟨k,h3⟩
theorem aaH{es:Array (Int×au)}{h:Int}(e:es[i]? =some (h,v)):(es[i]?.map (·.1)).getD 0=h:=by rw[e];simp only[k9,yQ]
theorem W8(pl:List Nat)(led plain:Bool)(f:Nat→Int)(h:Int)(p:y0):(cX pl led plain).probe f h p=wk (cX pl led plain) f h 220 p:=
 bV (λn=>wk (cX pl led plain) f h n p) (show 10*SetTable.turns 7=220 by decide)
noncomputable abbrev yc(es:Array (Int×au))(i:Nat):Int:=(es[i]?.map (·.1)).getD 0
section
variable{M:Model}{T:sN}{h h':Int}{x y:au}{hH i j:Nat}{pE:Option y0}{next:y0}{Q:SetFound→aE→Prop}
theorem VG(st:∀{Q:(Array (Int×au)×Nat×sN)→aE→Prop},Q (es,ep,T) s→aY M A (u0 a) Q E s)(hg:T.gaveWay=false)(hp:T.probe (yc es) h (pE.getD (T.probeStart h))=some (.empty j none))(q:Q (.free j false) s):
 aY M A (Dd a x h true (hH+1) pE) Q E s:=by
 refine aB (m:=u0 a) (st ?_);dsimp only;rw[hg];refine aB (a4 ?_);change aY _ _ (match T.probe (yc es) h (pE.getD (T.probeStart h))with|some met=>_|x=>_) _ _ _;rw[hp];exact a4 q
set_option tactic.hygienic true in
theorem VH{b:aI}{t:Bool}(st:∀{Q:(Array (Int×au)×Nat×sN)→aE→Prop},Q (es,ep,T) s→aY M A (u0 a) Q E s)(hg:T.gaveWay=false)(hp:T.probe (yc es) h (pE.getD (T.probeStart h))=some (.candidate j i next))
 (he:es[i]? =some (h',.ref b)) (hu:∀{Q:Bool→aE→Prop},Q false s→aY M A (J3 x ((es.filter (·.1==h)).toList.map (·.2))) Q E s) (hq:∀{Q:Bool→aE→Prop},Q t s→aY M A (eqBool (.ref b) x) Q E s)
 (hs:T.sameMemory T.moves T.mask=some true) (hl:T.slot j= .live i) (q1:t=true→Q (.there none) s) (q2:t=false→aY M A (Dd a x h true hH (some next)) Q E s):
 aY M A (Dd a x h true (hH+1) pE) Q E s:=by
 refine aB (m:=u0 a) (st ?_);dsimp only;rw[hg];refine aB (a4 ?_);rw[hp];dsimp only;rw[he];have go:∀{R:Sem SetFound},aY M A R Q E s→aY M A (if(!T.led)=true then(do if←J3 x ((es.filter (·.1==h)).toList.map (·.2))then unsupported "set:the-search-would-show-the-table" else R)else R) Q E s:=λr=>by
  cases T.led with
  |true=>exact r
  |false=>exact aB (hu r)
 refine go (aB (fA (hq (aB (st ?_)))));cases t with
 |true=>exact a4 (q1 rfl)
 |false=>
  rw[hs];dsimp only;rw[aP rfl,hl];dsimp only;rw[he];exact aB (wpAny_isSame_ref_self (aB (a4 (q2 rfl))))
end
theorem f7.search(X:f7 ae w s.heap a led ks es ep plain pl)(hu:A.units<cLine){k:K3}{x:au}(hx:d6 ae w s.heap k x){K:Nat}
 (hK:(dW (dP (eY ae w k)) K).1∉pl) (hb:∀m<K,(dW (dP (eY ae w k)) m).1∈pl) (Bg:K<21) {Q:SetFound→aE→Prop} (q1:k∈ks→Q (.there none) s) (q2:k∉ks→Q (.free (dW (dP (eY ae w k)) K).1 false) s):
 ∀(hH kk:Nat) (pE:Option y0),K<kk+hH→kk≤K→pE.getD ((cX pl led plain).probeStart (eY ae w k))=iZ (dP (eY ae w k)) kk→
  (k∈ks→∃m i,kk≤m∧m<K∧pl.idxOf? (dW (dP (eY ae w k)) m).1=some i∧ks[i]? =some k)→
  aY (ba ae w) A (Dd a x (eY ae w k) true hH pE) Q E s:=by
 have st:∀{Q:(Array (Int×au)×Nat×sN)→aE→Prop},Q (es,ep,cX pl led plain) s→aY (ba ae w) A (u0 a) Q E s:=X.state;have kS:∀{m i:Nat},pl.idxOf? (dW (dP (eY ae w k)) m).1=some i→(cX pl led plain).slot (dW (dP (eY ae w k)) m).1= .live i:=λh3=>by
  rw[DR X.mx (w6 _ _)];unfold vm;rw[h3]
 have hs:(cX pl led plain).sameMemory (cX pl led plain).moves (cX pl led plain).mask=some true:=by unfold SetTable.sameMemory;simp
 have at':∀{i:Nat},ks[i]? =some k→∀{j},pl[i]? =some j→yc es i=eY ae w k:=λh1 j h2=>by
  refine aT (X.item _ _ h1) λv e y=>aaH e
 have pg:=λkk d hd=>MF X.mx led plain (yc es) (eY ae w k) hK hb d kk 220 hd;have ky:∀{m i:Nat},pl.idxOf? (dW (dP (eY ae w k)) m).1=some i→∃k' b,ks[i]? =some k'∧es[i]? =some (eY ae w k',.ref b)∧d6 ae w s.heap k' (.ref b):=λh3=>by
  refine tx (X.keyOf (DH h3)) λk' v' w1 w2 w3=> ?_;refine aT w3.key λb z y=> ?_;exact⟨k',b,w1,z▸w2,z▸w3⟩
 simp only[←W8]at pg;generalize(dW (dP (eY ae w k)) K).1=fr at*;generalize hT:cX pl led plain=T at*;have hg:T.gaveWay=false:=by rw[←hT];exact show((7%2:Nat)==0)=false by decide
 intro hH
 induction hH with
 |zero=>exact λkk pE hf hle=>bP hf (eP.mpr hle)
 |succ hH ih=>
  intro kk pE hf hle f9 dJ;rcases pg kk (K-kk) (Nat.add_sub_of_le hle) (yH (uN _ _) (Di Bg (by decide)))with⟨e1,nn⟩|⟨m,i,h1,h2,h3,h4,h5,e1⟩
  ·rw[←f9]at e1;exact VG st hg e1 (q2 λz=>jV (dJ z) λm i z1 z2 z3 z4=>nn m z1 z2 i z3 (at' z4 (DH z3)))
  ·rw[←f9]at e1;refine tx (ky h3) λk' b w1 w2 w3=>VH st hg e1 w2 (λq=>f7.acz hx (X.aaG _) q) ((λ{_ _} w3 {_} q=>ads hu w3 hx q:∀{k':K3} {b:aI},d6 ae w s.heap k' (.ref b)→∀{Q:Bool→aE→Prop},Q (decide (k'=k)) s→aY (ba ae w) A (eqBool (.ref b) x) Q E s) w3) hs (kS h3) (λz=>q1 ((lM) (fQ z▸w1))) λz=> ?_;refine ih (m+1) (some _) (yI hf (by rw[fS];exact bH (bH h1 hH) 1)) h2 rfl λz'=>jV (dJ z') λm' i' z1 z2 z3 z4=>⟨m',i',?_,z2,z3,z4⟩;rcases Nat.lt_trichotomy m' m with lt|eq|lt
   ·exact(h5 m' z1 lt i' z3 (at' z4 (DH z3))).elim
   ·rw[eq,h3]at z3;rw[←c8 z3,w1]at z4;exact(of_decide_eq_false z (c8 z4)).elim
   ·exact lt
end
section
variable{ae:bw}{w:br}{A:bO}{E:au→aE→Prop}{s:aE}{a:aI}{led plain:Bool}{ks:List K3}{es:Array (Int×au)}{ep:Nat}{pl:List Nat}
theorem aaI(pl:List Nat)(led plain:Bool)(j:Nat):(cX pl led plain).put j=(cX (vn pl.toArray j) led plain,jc pl.toArray j):=by
 have:SetTable.has #[] j=false:=by rfl
 rfl
theorem W9{pl:List Nat}(hp:pl∈jX 4)(h3:pl.length<4)(hj:j<8)(hn:j∉pl):vn pl.toArray j∈jX 4∧jc pl.toArray j≤pl.length∧vn pl.toArray j=pl.take (jc pl.toArray j)++j::pl.drop (jc pl.toArray j):=by
 have h1:=fU.mp sH pl hp;simp only[ia,uw,eF]at h1;have vY:pl∈jX 3:=by
  rcases h1.1.2 with e|e
  ·exact bP (bM e.symm) (ry.mpr h3)
  ·simpa using e
 have h2:=fU.mp (fU.mp Yk pl vY) j (gW.mpr hj);simp only[uw,ia,eF,ja]at h2;rcases h2 with e|⟨⟨e1,e2⟩,e3⟩
 ·exact bP (by simpa using e) hn
 ·exact⟨by simpa using e1,e3,e2⟩
theorem DS{α:Type}{l:List α}{p:Nat}{x:α}:(l.take p++x::l.drop p).Perm (x::l):=List.perm_middle.trans (by rw[Uv])
theorem w7{α:Type}{l:List α}{p:Nat}{x:α}:(l.take p++x::l.drop p).length=l.length+1:=DS.length_eq
theorem Ae{α:Type}{l:List α}{p:Nat}{x:α}(hp:p≤l.length)(i:Nat):(l.take p++x::l.drop p)[i]? =if i<p then l[i]? else if i=p then some x else l[i-1]? :=by
 by_cases h1:i<p
 ·rw[aP h1,jn (by rw[CO,CU hp];exact h1),T9 h1]
 ·rw[aS h1,mJ (by rw[CO,CU hp];exact eP.mp h1),CO,CU hp];by_cases h2:i=p
  ·rw[aP h2,h2,uG];rfl
  ·rw[aS h2];refine(Nat.exists_eq_add_of_lt (Nat.lt_of_le_of_ne (eP.mp h1) (sW h2))).elim λd hd=> ?_;rw[hd,De,um,List.getElem?_drop];rfl
theorem f7.add(X:f7 ae w s.heap a led ks es ep plain pl)(hu:A.units<cLine){k:K3}{x:au}(hx:d6 ae w s.heap k x)(h4:k∈ks∨ks.length<4){Q:Bool→aE→Prop}
 (q:∀h' d5 Sf Sg nc my b,uF a s.heap h'→f7 ae w h' a led d5 Sf Sg nc my→(∀z,z∈d5↔z∈ks∨z=k)→d5.length≤ks.length+1→Q b {s with heap:=h'}):
 aY (ba ae w) A (setAddHashed a x (eY ae w k)) Q E s:=by
 refine fA ?_;refine aB (X.state ?_);dsimp only;have rP:byScan x es=false:=by obtain⟨b,rfl,_⟩:=hx.key;rfl
 rw[rP];refine cY (We X.mx (eY ae w k)) λK Bg hK hb=> ?_;refine aB (X.search hu hx hK hb Bg (λdJ=> ?_) (λdJ=> ?_) 100000 0 none (yI Bg (aK rfl)) (eH _) (W4 ..) λdJ=> ?_)
 ·dsimp only;refine a4 ?_;exact q s.heap ks es ep plain pl false (Heap.SameBut.refl a s.heap) X (λz=>⟨.inl,λh=>h.elim id λe=>e▸dJ⟩) (rm _)
 ·dsimp only;refine aB (X.state ?_);rw[aaI];have i0:pl.length<4:=by rw[←X.pY];exact(h4.resolve_left dJ)
  refine pJ (W9 X.mx i0 (w6 (dP (eY ae w k)) K) hK) λf1 f2 f3=> ?_;generalize hj:(dW (dP (eY ae w k)) K).1=j at f1 f2 f3 hK⊢;generalize hp:jc pl.toArray j=p at f2 f3⊢;generalize afI:vn pl.toArray j=my at f1 f3⊢;have Hq:my.length=pl.length+1:=f3▸w7;have Hr:(ur es p (eY ae w k,x)).toList=es.toList.take p++(eY ae w k,x)::es.toList.drop p:=SetTable.toList_insertAt es p _;have aeP:p≤es.toList.length:=by rw[gw,X.kT];exact f2
  have fin:∀nc,nc=false→aY (ba ae w) A (do
   storeSet a (ur es p (eY ae w k,x)) (cX my led nc)
   if(!false&&(cX my led nc).tooFull)=true then setRelay a (SetTable.grown (es.size+1))
   pure true) Q E s:=λnc hpn=>by
   refine aB (wpAny_storeSet_of X.at' rfl ?_ (by
    rw[←gw,Hr,w7,gw,X.kT];exact ao i0 (by decide)))
   have ht:(cX my led nc).tooFull=false:=by
    unfold SetTable.tooFull KD cX;simp only[si,nR,Hq,ge_iff_le,lL];exact λh=>bP (ao h (Nat.mul_le_mul_right 5 i0)) (by decide)
   rw[ht];refine a4 ?_;have kE:uF a s.heap (s.heap.update a (Obj.putSet (ur es p (eY ae w k,x)) (cX my led nc))):=yF ..;have kp:∀b o,(∃c,o=c∧True)→s.heap.get? b=some o→b≠a→(s.heap.update a (Obj.putSet (ur es p (eY ae w k,x)) (cX my led nc))).get? b=some o:=λb o y e n=>(kE.2 b n).trans e;have k3:∀k' v',d6 ae w s.heap k' v'→d6 ae w (s.heap.update a (Obj.putSet (ur es p (eY ae w k,x)) (cX my led nc))) k' v':=λk' v' hk=>by
    (refine pK hk λb vs n gR o t hi=> ?_;clear hk;subst gR);refine⟨b,vs,n,rfl,o,kp b _ ⟨_,rfl,trivial⟩ t (λz=> ?_),hi⟩;clear q kE kp;subst z;have:=X.at'.symm.trans t;injection this with this;exact bP (bV Obj.data this) (by simp)
   refine q _ (ks.take p++k::ks.drop p) (ur es p (eY ae w k,x)) (ep+1) nc my true kE ⟨?_,f1,?_,?_,?_,?_,?_,.inl hpn⟩ (λz=> ?_) (bM w7)
   ·exact yA _ X.at' rfl
   ·rw[←gw,Hr,w7,gw,X.kT,Hq]
   ·rw[w7,X.pY,Hq]
   ·intro i k' e;rw[Ae (X.pY▸f2)]at e;rw[←gI,Hr,Ae aeP,gI,gI];by_cases h1:i<p
    ·rw[aP h1]at e⊢;refine aT (X.item i k' e) λv e1 e2=> ?_;exact⟨v,e1,k3 _ _ e2⟩
    ·rw[aS h1]at e⊢;by_cases h2:i=p
     ·rw[aP h2]at e⊢;(refine cj e λaL=> ?_;clear e;subst aL);exact⟨x,rfl,k3 _ _ hx⟩
     ·rw[aS h2]at e⊢;refine aT (X.item _ k' e) λv e1 e2=> ?_;exact⟨v,e1,k3 _ _ e2⟩
   ·exact DS.nodup_iff.mpr (List.nodup_cons.mpr ⟨dJ,X.nodup⟩)
   ·intro i k' j' e1 e2;rw[Ae (X.pY▸f2)]at e1;rw[f3,Ae f2]at e2;have sub:∀z,z∈pl→z∈my:=λz hz=>by
     rw[f3];have:z∈pl.take p++pl.drop p:=by rw[Uv];exact hz
     rcases uy.mp this with m|m
     ·exact List.mem_append_left _ m
     ·exact List.mem_append_right _ (kF _ m)
    have old:∀i',ks[i']? =some k'→pl[i']? =some j'→∃n,(dW (dP (eY ae w k')) n).1=j'∧∀m<n,(dW (dP (eY ae w k')) m).1∈my:=λi' a1 a2=>by
     refine aT (X.way i' k' j' a1 a2) λn b1 b2=> ?_;exact⟨n,b1,λm hm=>sub _ (b2 m hm)⟩
    by_cases h1:i<p
    ·rw[aP h1]at e1 e2;exact old _ e1 e2
    ·rw[aS h1]at e1 e2;by_cases h2:i=p
     ·rw[aP h2]at e1 e2;(refine cj e1 λaL=> ?_;clear e1;subst aL);(refine cj e2 λaL=> ?_;clear e2;clear old;subst aL);exact⟨K,hj,λm hm=>sub _ (hb m hm)⟩
     ·rw[aS h2]at e1 e2;exact old _ e1 e2
   ·rw[DS.mem_iff,cG];exact or_comm
  cases plain with
  |true=>
   refine aB (Wf hx ?_);exact fin false rfl
  |false=>
   refine aB (a4 ?_);exact fin false rfl
 ·refine bG (Cv dJ) λi hi=> ?_;have j0:i<pl.length:=by
   refine bG (fe.mp hi) λz y=> ?_;rw[←X.pY];exact z
  refine aT (X.way i k pl[i] hi (cF j0)) λn e1 e2=> ?_;refine⟨n,i,eH _,?_,?_,hi⟩
  ·rcases Nat.lt_or_ge n K with lt|ge
   ·exact lt
   ·exfalso;rcases Nat.eq_or_lt_of_le ge with eq|lt
    ·rw[eq,e1]at hK;exact hK (mN j0)
    ·exact hK (e2 K lt)
  ·rw[e1];have nd:=fU.mp sH pl X.mx;simp only[ia,ja]at nd;refine Ue.mpr ⟨j0,rfl,λj hj z=> ?_⟩;exact Cc.mp nd.2 j i (cQ (b:=1) (ao (ao (bH hj 1) j0) (bR _ 1))) j0 hj z
end
section
variable{ae:bw}{w:br}{A:bO}{E:au→aE→Prop}{s:aE}
def vp(h h':aF):Prop:=∀b o,o.cls= .type "tuple"→h.get? b=some o→h'.get? b=some o
theorem d6.move{h:aF}{k:K3}(x:d6 ae w h k v)(kp:vp h h'):d6 ae w h' k v:=by
 (refine pK x λa vs n gR o t r=> ?_;clear x;subst gR);exact⟨a,vs,n,rfl,o,kp a _ rfl t,r⟩
def pF(ae:bw)(w:br)(h:aF)(a:aI)(ks:List K3):Prop:=∃es ep plain pl,f7 ae w h a (!w.params.followText "set-order") ks es ep plain pl
theorem f7.move{h:aF}{a:aI}{led plain:Bool}{ks:List K3}{es:Array (Int×au)}{ep:Nat}{pl:List Nat}(X:f7 ae w h a led ks es ep plain pl)(k:∀o,h.get? a=some o→h'.get? a=some o)(kt:vp h h'):f7 ae w h' a led ks es ep plain pl:=
 ⟨k _ X.at',X.mx,X.kT,X.pY,λi z e=>(let⟨v,h1,h2⟩:=X.item i z e;⟨v,h1,h2.move kt⟩),X.nodup,X.way,X.MJ⟩
theorem pF.move{h:aF}{a:aI}{ks:List K3}(x:pF ae w h a ks)(k:∀o,h.get? a=some o→h'.get? a=some o)(kt:vp h h'):pF ae w h' a ks:=by
 (refine G6 x λes ep plain pl X=> ?_;clear x);exact⟨es,ep,plain,pl,X.move k kt⟩
def w8(ae:bw)(w:br)(h:aF)(items:Array au)(key:Nat→K3):Prop:=∀(i:Nat) v,items[i]? =some v→d6 ae w h (key i) v
theorem w8.move{h:aF}{key:Nat→K3}(x:w8 ae w h items key)(kt:vp h h'):w8 ae w h' items key:=λi v e=>(x i v e).move kt
theorem Le{wr:List aI}{G:Array GenState→Array GenState→Prop}{s s':aE}(hm:Moved wr G s s')(hw:∀b∈wr,∀o,s.heap.get? b=some o→o.cls≠ .type "tuple"):vp s.heap s'.heap:=λb o hc e=>
 hm.heap b o (λm=>hw b m o e hc) e
theorem Ym{S:aI}{fp wr:List aI}{G:Array GenState→Array GenState→Prop}{St:Nat→aE→Prop}{key:Nat→K3}{R:Result→aE→Prop}(hu:A.in1.units<cLine)
 (W:WalksS ae w A.in1 I fp wr G items.size (λi v=>items[i]? =some v) St) (qP:S∉fp) (h4:items.size≤4) (hw:∀i s,St i s→∀b∈wr,∀o,s.heap.get? b=some o→o.cls≠ .type "tuple"):
 ∀(k i:Nat) (s:aE) (ks:List K3),items.size-i=k→i≤items.size→St i s→pF ae w s.heap S ks→ks.length≤i→(∀z,z∈ks↔∃j<i,key j=z)→w8 ae w s.heap items key→
  (∀s' d5,Moved (S::wr) G s s'→pF ae w s'.heap S d5→(∀z,z∈d5↔∃j<items.size,key j=z)→R (.ok (.ret .none)) s')→
  jQ (ba ae w) A (.builtin "set.update.loop" ⟨[.ref S,.ref I],[]⟩) R s:=by
 have Sh:S∉wr:=λh=>qP (W.sub _ h);have jW:∀b∈wr,b∈S::wr:=λb hb=>kF _ hb;intro k
 induction k with
 |zero=>
  intro i s ks hk hi f9 hS bJ nq BQ hR;have dJ:i=items.size:=k7 hi (Nat.sub_eq_zero_iff_le.mp hk);clear hk hi bJ;subst dJ;refine sj F.entry_set_update_loop ?_;refine aB (W.done s _ _ f9 λs' hm=> ?_);exact a4 (hR s' ks (hm.mono jW) (hS.move (λo e=>hm.heap S o Sh e) (Le hm (hw _ _ f9))) nq)
 |succ k ih=>
  intro i s ks hk hi f9 hS bJ nq BQ hR;have dD:i<items.size:=Nat.lt_of_sub_eq_succ hk;refine sj F.entry_set_update_loop ?_;refine aB (W.item i s _ _ dD f9 λv s' hP Qj hm=> ?_);have kt:=Le hm (hw _ _ f9);have Qk:=BQ.move kt;have hv:=Qk i v hP;refine G6 (hS.move (λo e=>hm.heap S o Sh e) kt) λes ep plain pl X=> ?_;refine aB (fA ?_);refine fA ?_;refine aB (aaE hu hv λtk Si=> ?_);refine f7.add (s:={s' with toks:=tk}) X hu hv (.inr (ao (ao (bH bJ 1) dD) h4)) λh' d5 Sf Sg nc my b kE X' qJ iY=> ?_;have kt2:vp s'.heap h':=λc o hc e=>by
   rw(config:={}) [kE.2 c λz=> ?_]
   ·exact e
   ·rw[z,X.at']at e;(refine cj e λaL=> ?_;clear e;subst aL);exact bP hc (by simp)
  refine a4 ⟨rk F.plain_set_update_loop _,ih (i+1) _ d5 (bV Nat.pred hk) dD (W.frame _ s' h' tk Qj Si λc hc o e=> ?_) ⟨_,_,_,_,X'⟩ (ao iY (bH bJ 1)) (λz=> ?_) (Qk.move kt2) λub aeQ aeR aeS aeT=> ?_⟩
  ·rw[kE.2 c (λh:c=S=>qP (by rw[←h];exact hc))];exact e
  ·rw[qJ z,nq z];constructor
   ·rintro(⟨j,hj,e⟩|e)
    ·exact⟨j,ao hj (bR _ 1),e⟩
    ·exact⟨i,cH _,e.symm⟩
   ·rintro⟨j,hj,e⟩;by_cases q:j=i
    ·clear hk hi f9 bJ nq dD hP Qj hv qJ hj;subst q;exact .inr e.symm
    ·exact .inl ⟨j,by lia,e⟩
  ·refine hR ub aeQ (Moved.trans W.gtrans ((hm.mono jW).then_heap Si λc o hb e=> ?_) aeR) aeS aeT;rw[kE.2 c (λh:c=S=>hb (h▸mM))];exact e
end
section
variable{ae:bw}{w:br}{A:bO}{E:au→aE→Prop}{s:aE}
noncomputable abbrev ip(w:br):Bool:= !w.params.followText "set-order"
theorem Vg(a:au){Q₁:au→aE→Prop}(h:Q₁ (.ref s.heap.objs.size) {s with heap:=s.heap.push (kj #[] 0 (cX [] (ip w) true))}):
 jQ (ba ae w) A (.call (.builtin "set.__new__") ⟨[.type "set",a],[]⟩) (wants Q₁ E) s:=by
 refine CX ?_;show aY _ A.in1 (do checkBuiltinCall "set.__new__" ⟨[.type "set",a],[]⟩;again (.builtin "set.__new__" ⟨[.type "set",a],[]⟩)) _ _ s;refine aB (Du (F.newCall_set_1 a) (a4 ⟨rk F.plain_set_new _,sj F.entry_set_new ?_⟩));rw[Around.under_plainId F.plain_set_new _];unfold Builtin.«set.__new__» Builtin.Frozenset.newClass;have jW:=sub_set_self;obtain⟨hp,g,d,tk,os⟩:=s;dsimp only
 wp_walk
 refine uv (a4 ?_);dsimp only;simp only[newObj];refine aB (wpAny_alloc (a4 ?_));exact a4 h
structure Src(ae:bw)(w:br)(l:aI)(o:Obj)(items:Array au):Prop where
 go:∃(T:String) (oI:Obj) (St:aI→Nat→aF→Prop),o.cls= .type T∧isSubtype (.type T) (.type "set")=pure false∧isSubtype (.type T) (.type "frozenset")=pure false∧(fV T==fV "dict")=false∧
  (∀(A:bO) (E:au→aE→Prop) (s:aE) (Q:au→aE→Prop),s.heap.get? l=some o→Q (.ref s.heap.objs.size) {s with heap:=s.heap.push oI}→aY (ba ae w) A (ng (.ref l)) Q E s)∧
  (∀(A:bO) (I:aI),A.handled=none→l≠I→Walks ae w A I [I,l] [I] items.size (λi v=>items[i]? =some v) (St I))∧
  (∀h:aF,h.get? l=some o→St h.objs.size 0 (h.push oI))∧(∀I i h o',St I i h→h.get? I=some o'→o'.cls≠ .type "tuple")
theorem src_list{l:aI}{n:Nat}:Src ae w l {cls:= .type "list",data:= .seq items n} items:=
 ⟨"list",_,λI i h=>h.IsListIter I l i∧h.IsList l items,rfl,F.sub_list_set,F.sub_list_frozenset,by decide,
  λA E s Q ho q=>CH ⟨_,ho,rfl,n,rfl⟩ q,λA I hh fH=>Walks.list hh I l fH items,
  λh ho=>⟨⟨_,fP _ rfl,rfl,rfl⟩,⟨_,cR _ ho,rfl,n,rfl⟩⟩,
  λI i h o' st e=>by
   (refine cM st λaL z=> ?_;clear st;obtain⟨o2,e2,hc,_⟩:=aL);rw[e]at e2;(first|exact aQ e2|exact dA e2|exact cL e2|exact pL e2|(refine cj e2 λaL=> ?_;clear e2;subst aL));rw[hc];simp⟩
theorem src_tuple{l:aI}{n:Nat}:Src ae w l {cls:= .type "tuple",data:= .seq items n} items:=
 ⟨"tuple",_,λI i h=>h.IsTupleIter I l i∧h.IsTuple l items,rfl,by rw[gX];kernel_rfl,by rw[gX];kernel_rfl,by decide,
  λA E s Q ho q=>CA ⟨_,ho,rfl,n,rfl⟩ q,λA I hh fH=>Walks.tuple hh I l fH items,
  λh ho=>⟨⟨_,fP _ rfl,rfl,rfl⟩,⟨_,cR _ ho,rfl,n,rfl⟩⟩,
  λI i h o' st e=>by
   (refine cM st λaL z=> ?_;clear st;obtain⟨o2,e2,hc,_⟩:=aL);rw[e]at e2;(first|exact aQ e2|exact dA e2|exact cL e2|exact pL e2|(refine cj e2 λaL=> ?_;clear e2;subst aL));rw[hc];simp⟩
theorem Xa(a:aI){h:aF}(e:h.get? a=some (kj #[] 0 (cX [] (ip w) true))):pF ae w h a []:=
 ⟨#[],0,true,[],e,by decide,rfl,rfl,λi k h=>by simp at h,List.nodup_nil,λi k j h=>by simp at h,.inr rfl⟩
set_option maxHeartbeats 3200000 in
theorem Xb{l:aI}{key:Nat→K3}(C:Src ae w l o items)(hh:A.handled=none)(hu:A.units+100<cLine)(ho:s.heap.get? l=some o)(h4:items.size≤4)(BQ:w8 ae w s.heap items key)
 (h:∀(h':aF) (tk:Nat) (ks:List K3),pF ae w h' s.heap.objs.size ks→(∀z,z∈ks↔∃j<items.size,key j=z)→(∀b o,s.heap.get? b=some o→h'.get? b=some o)→Q (.ref s.heap.objs.size) {s with heap:=h',toks:=tk}):
 aY (ba ae w) A (call (.type "set") [.ref l]) Q E s:=by
 refine P5 C.go λT oI St xN aeU aeV fH hit W Hs cC=> ?_;refine gM kI.mro λc tl aeW=> ?_;have adt:=kI.made;have jW:=kI.sub;refine sC (CX ?_);show aY _ _ (callAny (.type "set") _) _ _ _;refine a4 ⟨Code.quiet_builtin _ (by decide+kernel),sj F.entry_type_call ?_⟩;rw[Around.under_plain (weight_type_call_type "set" [.ref l] []) rfl];have h1:=kI.notType;have h2:=kI.canCreate;have hct:=F.typeCall_set_1 (.ref l)
 repeat (any_goals (first|assumption|wp_step))
 refine sr (Vg (.ref l) (E:=E) (Q₁:=λobj cV=>obj= .ref s.heap.objs.size∧cV={s with heap:=s.heap.push (kj #[] 0 (cX [] (ip w) true))}) ⟨rfl,rfl⟩) λr cV hr=> ?_;cases r with
 |error e=>exact hr
 |ok fl=>
  cases fl with
  |ret obj=>
   (refine cM hr λaL aM=> ?_;clear hr;subst aL;subst aM);have hS:(s.heap.push (kj #[] 0 (cX [] (ip w) true))).get? s.heap.objs.size=some (kj #[] 0 (cX [] (ip w) true)):=fP _ rfl;have hT:wG {s with heap:=s.heap.push (kj #[] 0 (cX [] (ip w) true))} (.ref s.heap.objs.size) "set":=⟨_,hS,rfl⟩;have hli:=kI.init.lookup;have hbi:=kI.init.bind (.ref s.heap.objs.size)
   repeat (any_goals (first|assumption|wp_step))
   refine sr (yB (R:=wants (λr fF=>r= .none∧∃h' tk ks,fF={s with heap:=h',toks:=tk}∧pF ae w h' s.heap.objs.size ks∧(∀z,z∈ks↔∃j<items.size,key j=z)∧
    (∀b o,s.heap.get? b=some o→h'.get? b=some o)) E) kI.init.plain F.entry_set_init (check_set_init_1 hT ?_)) λlx fF tn=> ?_
   ·have i3:(s.heap.push (kj #[] 0 (cX [] (ip w) true))).get? l=some o:=cR _ ho;have hTl:wG {s with heap:=s.heap.push (kj #[] 0 (cX [] (ip w) true))} (.ref l) T:=⟨_,i3,xN⟩;obtain⟨afJ,afC,afD,afB⟩:=o;simp only at xN;clear C;subst xN;have yd:l<s.heap.objs.size:=dy ho;have fu:(cX [] (ip w) true).fits 0=true:=by cases ip w<;>decide
    unfold Ub noKeywords TN;generalize Iw:ng=PI
    wp_walk
    subst Iw;refine hit _ _ _ _ i3 ?_;refine aB (wpAny_runValue ?_);have Ht:l≠(s.heap.push (kj #[] 0 (cX [] (ip w) true))).objs.size:=by
     rw[gY];exact gK (rd yd)
    have Iy:A.in1.in1.in1.handled=none:=by simp[hh]
    have qP:s.heap.objs.size∉ [(s.heap.push (kj #[] 0 (cX [] (ip w) true))).objs.size,l]:=by
     rw[gY];simp only[cG,ff,fg,not_or];exact⟨gK (qb _),nU yd⟩
    have kp:∀b o,s.heap.get? b=some o→((s.heap.push (kj #[] 0 (cX [] (ip w) true))).push oI).get? b=some o:=λb o e=>cR _ (cR _ e);refine Ym (A:=A.in1.in1) (key:=key) (by simp only[Around.in1_units];exact cQ (b:=97) (ao hu (bR _ 97))) (W _ _ Iy Ht).toS qP h4 (λi s1 st b hb o e=> ?_) (items.size-0) 0 _ [] (by exact k7 (cH _) (cH _)) (eH _) (Hs _ i3)
     (Xa _ (cR _ hS)) (eH _) (λz=>by simp) (BQ.move λb o y e=>kp b o e) λs' d5 hm mq jj=> ?_
    ·rw[fz.mp hb]at e;exact cC _ _ _ _ st e
    ·obtain⟨h',g',d',c6,ye⟩:=s';have eg:g'=s.gens:=hm.gens;have ed:d'=s.drawn:=hm.drawn;have eo:ye=s.os:=hm.os;subst eg;subst ed;subst eo;show aY _ _ _ _ _ _;refine a4 ?_;show aY _ _ (ret lh) _ _ _;refine a4 ⟨rfl,h',c6,d5,rfl,mq,jj,λb o e=> ?_⟩;have hb:=dy e;refine hm.heap b o ?_ (kp b o e);rw[gY];simp only[cG,ff,fg,not_or];exact⟨gK hb,gK (rd hb)⟩
   ·cases lx with
    |error e=>exact tn
    |ok EY=>
     cases EY with
     |ret r=>
      obtain⟨rfl,h',tk,ks,rfl,mq,qJ,jj⟩:=tn
      repeat (any_goals (first|assumption|wp_step))
      exact h _ _ _ mq qJ jj
     |_=>exact tn.elim
  |_=>exact hr.elim
end
theorem slot_set_iter:Slot "set" "__iter__" "set.__iter__":=
 .of (owner:="set") (n:="__iter__") (by rw[uz,uq];kernel_rfl) (by decide+kernel) (by decide+kernel) (by decide+kernel)
  (by first|exact .inl (by decide+kernel)|exact .inr (by decide+kernel)) (by rw[gX];kernel_rfl)
theorem UT:entryFor table "set.__iter__"=some Builtin.«frozenset.__iter__»:=
 entryFor_alias (id':="frozenset.__iter__") (by kernel_rfl) (by first|rfl|decide+kernel) (by decide+kernel) (by kernel_rfl)
theorem U5(a:au):argsOk "set.__iter__" ⟨[a],[]⟩:=by
 unfold argsOk;rw[signature?_of (id:="set.__iter__") (n:= ['_','_','r','e','t','i','_','_']) (o:= ['t','e','s']) (by kernel_rfl) F.owner_set];kernel_rfl
theorem oV:Slot "set_iterator" "__next__" "set_iterator.__next__":=
 .of (owner:="set_iterator") (n:="__next__") (by rw[uz,uq];kernel_rfl) (by decide+kernel) (by decide+kernel) (by decide+kernel)
  (by first|exact .inl (by decide+kernel)|exact .inr (by decide+kernel)) (by rw[gX];kernel_rfl)
theorem yY:entryFor table "set_iterator.__next__"=some afz:=entryFor_of_tree (by kernel_rfl)
theorem y7(a:au):argsOk "set_iterator.__next__" ⟨[a],[]⟩:=by unfold argsOk;kernel_rfl
theorem Ki:Slot "set_iterator" "__iter__" "set_iterator.__iter__":=
 .of (owner:="set_iterator") (n:="__iter__") (by rw[uz,uq];kernel_rfl) (by decide+kernel) (by decide+kernel) (by decide+kernel)
  (by first|exact .inl (by decide+kernel)|exact .inr (by decide+kernel)) (by rw[gX];kernel_rfl)
theorem slot_set_len:Slot "set" "__len__" "set.__len__":=
 .of (owner:="set") (n:="__len__") (by rw[uz,uq];kernel_rfl) (by decide+kernel) (by decide+kernel) (by decide+kernel)
  (by first|exact .inl (by decide+kernel)|exact .inr (by decide+kernel)) (by rw[gX];kernel_rfl)
section
variable{ae:bw}{w:br}{A:bO}{E:au→aE→Prop}{s:aE}
theorem Yn{r:aI}{Q:Bool→aE→Prop}(hT:s.TypeIs (.ref r) "set")(h:Q false s):aY (ba ae w) A (TQ (.ref r)) Q E s:=by
 unfold TQ;refine aB (Km hT slot_set_len.lookup ?_);generalize c7:("set.__len__":String)=id0
 wp_delta
 rw[show splitId id0=some ("set","__len__")from by subst c7;decide+kernel];subst c7;refine aB (yP (T:="set") (b:=true) hT (by rw[gX];kernel_rfl) ?_);refine kG (λnI=>bP nI (by decide)) (λz=> ?_);refine kG (λz=> ?_) (λnI=>bP (by decide+kernel) nI);refine aB (sq hT ?_);exact a4 h
end
theorem Dx{β:Type}:∀{l:List β} {i:Nat} (h:i<l.length),(l[i]::l.eraseIdx i).Perm l
 |x::xs,0,_=>by rfl
 |x::xs,i+1,h=>by
  exact(List.Perm.swap _ _ _).trans ((Dx (by simpa using h)).cons x)
section
variable{ae:bw}{w:br}{A:bO}{E:au→aE→Prop}{s:aE}
theorem Wg{n:Nat}(hn:n≠0){Q:Nat→aE→Prop}(h:∀i<n,∀d,Q i {s with drawn:=d}):aY (ba ae w) A (choose .order n) Q E s:=
 λz z z=>⟨hn,h _ (DG _ (Nat.pos_of_ne_zero hn)) _⟩
theorem Lx{β:Type}:∀(n:Nat) (xs:List β) (s:aE) {Q:List β→aE→Prop},xs.length=n→(∀ys d,ys.Perm xs→Q ys {s with drawn:=d})→aY (ba ae w) A (drawOrder n xs) Q E s
 |0,[],s,Q,_,h=>a4 (h [] s.drawn (.refl _))
 |n+1,x::xs,s,Q,hl,h=>by
  refine aB (m:=choose .order (x::xs).length) (Wg (Nat.succ_ne_zero _) λi hi d=> ?_);obtain⟨y,hy⟩:∃y,(x::xs)[i]? =some y:=⟨_,cF hi⟩;rw[hy];refine aB (Lx n ((x::xs).eraseIdx i) _ (by rw[List.length_eraseIdx];simp only[jb]at hl hi⊢;lia) λys d' hp=> ?_);refine a4 (h (y::ys) d' ?_);(refine bG (fe.mp hy) λj0 aM=> ?_;clear hy;subst aM);exact(hp.cons _).trans (Dx j0)
 |0,_::_,_,_,hl,_=>by simp at hl
 |_+1,[],_,_,hl,_=>by simp at hl
theorem Nq{β:Type}(next:Nat→Nat):∀(hH k:Nat) (left:List β) (out:Array β),left.length=hH→(pickOrder.go next hH k left out).toList.Perm (out.toList++left)
 |0,k,[],out,_=> .of_eq (gy _).symm
 |n+1,k,x::xs,out,hl=>by
  have hi:next k%(x::xs).length<(x::xs).length:=DG _ (Dh _)
  show(match(x::xs)[next k%(x::xs).length]? with|some y=>pickOrder.go next n (k+1) ((x::xs).eraseIdx (next k%(x::xs).length)) (out.push y)|none=>out).toList.Perm _;rw[cF hi];refine(Nq next n (k+1) _ _ (by rw[List.length_eraseIdx];simp only[jb]at hl hi⊢;simp only[hi,if_true];lia)).trans ?_;rw[J0,jo];exact List.Perm.append_left _ (Dx hi)
 |0,_,_::_,_,hl=>by simp at hl
 |_+1,_,[],_,hl=>by simp at hl
theorem DI(next:Nat→Nat)(xs:Array β):(zO next xs).toList.Perm xs.toList:=by
 exact Nq next _ _ _ _ rfl
end
noncomputable abbrev pG(first:au)(i:Nat)(a:aI)(n ep:Nat):Obj:={cls:= .type "set_iterator",data:= .fields #[first,.int i 0,.ref a,.int n 0,.int ep 0]}
structure nz(h:aF)(a:aI)(led:Bool)(es:Array (Int×au))(ep:Nat)(plain:Bool)(pl:List Nat):Prop where
 at':h.get? a=some (kj es ep (cX pl led plain))
 mx:pl∈jX 4
 kT:es.size=pl.length
section
variable{ae:bw}{w:br}{A:bO}{E:au→aE→Prop}{s:aE}{a I:aI}{led plain:Bool}{ks:List K3}{es:Array (Int×au)}{ep:Nat}{pl:List Nat}
theorem nz.state(X:nz s.heap a led es ep plain pl){Q:(Array (Int×au)×Nat×sN)→aE→Prop}(h:Q (es,ep,cX pl led plain) s):aY (ba ae w) A (u0 a) Q E s:=by
 have h4:=fU.mp sH pl X.mx;simp only[ia,ja]at h4;have hf:(cX pl led plain).fits es.size=true:=by
  simp only[SetTable.fits,cX,KD,si,X.kT,ia,ja,nQ,true_and];exact ao h4.1.1.2 (aK rfl)
 exact wpAny_setState_of X.at' rfl hf h
theorem LY{Q:Option au→aE→Prop}{R:PySem.Fin→aE→Prop}(hh:A.handled=none)(hQ:∀h',(∀b o,s.heap.get? b=some o→h'.get? b=some o)→Q none {s with heap:=h'}):
 aY (ba ae w) A.in1 (do raiseNew (←newExc (.type "StopIteration") [])) R (λe s'=>aY (ba ae w) A (do if←zA e (.type "StopIteration")then pure none else throw e) Q E s') s:=by
 refine aB ?_;refine aB (nP ?_ (by size_fits));refine aB (m:=firstArgMember _ _) (Du (a:=lh) (by first|rfl|(rfl)) ?_);refine nP ?_ (by size_fits);refine aB (wpAny_handled ?_)
 first|rw[show A.in1.handled=none from hh]|rw[hh]
 refine aB (a4 (wpAny_throw ?_));refine aB (yP (T:="StopIteration") (b:=true) ⟨_,fP _ rfl,rfl⟩ isSubtype_stop ?_);exact a4 (hQ _ λb o e=>cR _ (cR _ e))
def Ql(I:aI)(h h':aF):Prop:=∀b o,b≠I→h.get? b=some o→h'.get? b=some o
theorem next_item{n nx slot:Nat}{x:au}{Q:Option au→aE→Prop}(X:nz s.heap a led es ep plain pl)(hn:es.size=n)(hI:s.heap.get? I=some (pG (.int slot 0) i a n ep))
 (EZ:∀(A:bO) (E:au→aE→Prop) (Q:Option (au×Nat)→aE→Prop),Q (some (x,nx)) s→aY (ba ae w) A (setNext a slot i ep) Q E s)
 (hQ:∀h',h'.get? I=some (pG (.int nx 0) (i+1) a n ep)→uF I s.heap h'→Q (some x) {s with heap:=h'}):aY (ba ae w) A (ik (.ref I)) Q E s:=by
 have hT:s.TypeIs (.ref I) "set_iterator":=⟨_,hI,rfl⟩;refine aB (wF (q5 (name:=lg "__next__") hT oV
  (kY oV hT yY ?_ (y7 _))))
 refine aB (m:=slotArgs "__next__" 0 _) (a4 ?_);refine aB (C4 hI rfl ?_);dsimp only;refine aB (m:=zC a) (aB (X.state (a4 ?_)));rw[hn];have e1:((n:Int) !=(n:Int))=false:=by simp
 rw[e1];refine aB (EZ _ _ _ ?_);refine aB (oP hI (by simp) λh1 e1 s1=> ?_);refine aB (oP (s:={s with heap:=h1}) e1 (by simp) λh2 e2 s2=>a4 ⟨x,rfl,a4 ?_⟩);exact hQ h2 e2 (s1.trans s2)
theorem next_end{n slot:Nat}{Q:Option au→aE→Prop}(hh:A.handled=none)(X:nz s.heap a led es ep plain pl)(hn:es.size=n)(hI:s.heap.get? I=some (pG (.int slot 0) i a n ep))
 (EZ:∀(A:bO) (E:au→aE→Prop) (Q:Option (au×Nat)→aE→Prop),Q none s→aY (ba ae w) A (setNext a slot i ep) Q E s)
 (hQ:∀h',Ql I s.heap h'→Q none {s with heap:=h'}):aY (ba ae w) A (ik (.ref I)) Q E s:=by
 have hT:s.TypeIs (.ref I) "set_iterator":=⟨_,hI,rfl⟩;refine aB (wF (q5 (name:=lg "__next__") hT oV
  (kY oV hT yY ?_ (y7 _))))
 refine aB (m:=slotArgs "__next__" 0 _) (a4 ?_);refine aB (C4 hI rfl ?_);dsimp only;refine aB (m:=zC a) (aB (X.state (a4 ?_)));rw[hn];have e1:((n:Int) !=(n:Int))=false:=by simp
 rw[e1];refine aB (EZ _ _ _ ?_);refine aB (oP hI (by simp) λh1 e1 s1=> ?_);refine LY (s:={s with heap:=h1}) hh λh' k=>hQ h' λb o n e=>k b o ((s1.2 b n).trans e)
theorem Wh{n T:Nat}{x:au}{hY:List Nat}{p c:Nat}{Q:Option au→aE→Prop}(X:nz s.heap a led es ep plain pl)(hn:es.size=n)(hI:s.heap.get? I=some (pG (.ref T) i a n ep))
 (Iz:s.heap.get? T=some {cls:= .type "tuple",data:= .seq (hY.map λ(j:Nat)=>lS j 0).toArray c}) (hp:hY[i]? =some p) (hx:(es[p]?).map (·.2)=some x)
 (hQ:∀h',h'.get? I=some (pG (.ref T) (i+1) a n ep)→uF I s.heap h'→Q (some x) {s with heap:=h'}):aY (ba ae w) A (ik (.ref I)) Q E s:=by
 have hT:s.TypeIs (.ref I) "set_iterator":=⟨_,hI,rfl⟩;refine aB (wF (q5 (name:=lg "__next__") hT oV
  (kY oV hT yY ?_ (y7 _))))
 refine aB (m:=slotArgs "__next__" 0 _) (a4 ?_);refine aB (C4 hI rfl ?_);dsimp only;refine aB (m:=zC a) (aB (X.state (a4 ?_)));rw[hn];have e1:((n:Int) !=(n:Int))=false:=by simp
 rw[e1];refine aB (oU Iz rfl ?_);dsimp only;have e2:(hY.map λ(j:Nat)=>lS j 0).toArray[i]? =some (lS p 0):=by simp[hp]
 rw[e2];refine aB (aB (X.state ?_));(refine iX hx λe he aL=> ?_;clear hx;subst aL);simp only[bne_self_eq_false,CC,if_false,J1,he];refine a4 ?_;refine aB (oP hI (by simp) λh2 e2 s2=>a4 ⟨_,rfl,a4 ?_⟩);exact hQ h2 e2 s2
theorem Xc{n T:Nat}{hY:List Nat}{c:Nat}{Q:Option au→aE→Prop}(hh:A.handled=none)(X:nz s.heap a led es ep plain pl)(hn:es.size=n)(hI:s.heap.get? I=some (pG (.ref T) i a n ep))
 (Iz:s.heap.get? T=some {cls:= .type "tuple",data:= .seq (hY.map λ(j:Nat)=>lS j 0).toArray c}) (hp:hY[i]? =none)
 (hQ:∀h',Ql I s.heap h'→Q none {s with heap:=h'}):aY (ba ae w) A (ik (.ref I)) Q E s:=by
 have hT:s.TypeIs (.ref I) "set_iterator":=⟨_,hI,rfl⟩;refine aB (wF (q5 (name:=lg "__next__") hT oV
  (kY oV hT yY ?_ (y7 _))))
 refine aB (m:=slotArgs "__next__" 0 _) (a4 ?_);refine aB (C4 hI rfl ?_);dsimp only;refine aB (m:=zC a) (aB (X.state (a4 ?_)));rw[hn];have e1:((n:Int) !=(n:Int))=false:=by simp
 rw[e1];refine aB (oU Iz rfl ?_);dsimp only;have e2:(hY.map λ(j:Nat)=>lS j 0).toArray[i]? =none:=by simpa using hp
 rw[e2];refine aB (oP hI (by simp) λh1 e1 s1=> ?_);refine aB (oP (s:={s with heap:=h1}) e1 (by simp) λh2 e2 s2=> ?_);refine LY (s:={s with heap:=h2}) hh λh' k=>hQ h' λb o n e=>k b o ((s2.2 b n).trans ((s1.2 b n).trans e))
end
theorem UG:entryFor table "set_iterator.__iter__"=some afy:=
 entryFor_alias (id':="dict_keyiterator.__iter__") (by kernel_rfl) (by first|rfl|decide+kernel) (by decide+kernel) (by kernel_rfl)
theorem UK(a:au):argsOk "set_iterator.__iter__" ⟨[a],[]⟩:=by unfold argsOk;kernel_rfl
section
variable{ae:bw}{w:br}{A:bO}{E:au→aE→Prop}{s:aE}{a I:aI}{led plain:Bool}{es:Array (Int×au)}{ep:Nat}{pl:List Nat}
theorem Dy(ho:s.heap.get? I=some o)(hc:o.cls= .type "set_iterator")(h:Q (.ref I) s):aY (ba ae w) A (ng (.ref I)) Q E s:=by
 have hT:s.TypeIs (.ref I) "set_iterator":=⟨_,ho,hc⟩;refine wpAny_pyIter_slot hT Ki (kY Ki hT UG ?_ (UK _));show aY _ _ (ret (.ref I)) _ _ s;exact a4 ⟨_,rfl,"set_iterator",_,hT,oV.lookup,h⟩
theorem LZ(X:nz s.heap a led es ep plain pl)(ht:w.params.followText "set-order"=true)(A:bO)(E:au→aE→Prop)(Q:Option (au×Nat)→aE→Prop)
 (q:Q (((zO (w.params.setOrder a ep) es)[i]?).map λe=>(e.2,0)) s):aY (ba ae w) A (setNext a 0 i ep) Q E s:=by
 refine aB (X.state ?_);refine aB (m:=setsByText) ?_;refine aB (uv (a4 ?_));refine kG (λy=> ?_) λz=>bP ht z;refine kG (λz=>bP z (by rw[bne_self_eq_false];decide)) λy=> ?_;refine aB (m:=setWalk a) ?_;refine aB (X.state ?_);refine aB (m:=setsByText) ?_;refine aB (uv (a4 ?_));refine kG (λy=> ?_) λz=>bP ht z;refine aB (uv (a4 (a4 ?_)));exact q
theorem Wi(hh:A.handled=none)(ht:w.params.followText "set-order"=true)(fH:a≠I)(i0:pl∈jX 4)(d8:es.size=pl.length):
 Walks ae w A I [I,a] [I] es.size (λi v=>((zO (w.params.setOrder a ep) es).toList.map (·.2))[i]? =some v)
  (λi h=>h.get? I=some (pG (.int 0 0) i a es.size ep)∧h.get? a=some (kj es ep (cX pl led plain)))where
 sub:=λb hb=>by simp at hb;simp[hb]
 frame:=λy y y st hk=>⟨hk I (by simp) _ st.1,hk a (by simp) _ st.2⟩
 item:=λi s Q E hi st hQ=>by
  have X:nz s.heap a led es ep plain pl:=⟨st.2,i0,d8⟩;obtain⟨e,he⟩:∃e,(zO (w.params.setOrder a ep) es)[i]? =some e:=⟨_,uk (by rw[←gw,(DI (w.params.setOrder a ep) es).length_eq,gw];exact hi)⟩;refine next_item (slot:=0) (nx:=0) (x:=e.2) X rfl st.1 (λA E Q q=>LZ X ht A E Q (by rw[he];exact q)) λh' e1 s1=> ?_;refine hQ _ h' s.toks (by simp[he]) ⟨e1,(s1.2 a fH).trans st.2⟩ λb o hb e=>(s1.2 b (λz=>hb (by simp[z]))).trans e
 done:=λs Q E st hQ=>by
  have X:nz s.heap a led es ep plain pl:=⟨st.2,i0,d8⟩;refine next_end (slot:=0) hh X rfl st.1 (λA E Q q=>LZ X ht A E Q (by rw[(uo (by rw[←gw,(DI (w.params.setOrder a ep) es).length_eq,gw];exact cH _))];exact q)) λh' k=> ?_;exact hQ h' s.toks λb o hb e=>k b o (λz=>hb (by simp[z])) e
 self:=λi s Q E st hQ=>Dy st.1 rfl hQ
theorem Ly(X:nz s.heap a true es ep plain pl)(ht:w.params.followText "set-order"=false)(h1:es.size≤1){slot:Nat}{r:Option (au×Nat)}(A:bO)(E:au→aE→Prop)(Q:Option (au×Nat)→aE→Prop)
 (hr:(match es[jc pl.toArray slot]?,pl.toArray[jc pl.toArray slot]? with|some (_,x),some j=>some (x,j+1)|_,_=>none)=r)
 (q:Q r s):aY (ba ae w) A (setNext a slot i ep) Q E s:=by
 refine aB (X.state ?_);refine aB (m:=setsByText) ?_;refine aB (uv (a4 ?_));refine kG (λz=>cL (ht.symm.trans z)) λy=> ?_;refine kG (λnI=> ?_) (λy=> ?_)
 ·exfalso;have Qm:(!plain&&decide (es.size>1))=true:=nI;simp only[ia,ja]at Qm;exact bP Qm.2 (ry.mpr (bH h1 1))
 ·refine aB ?_;refine kG (λz=>cL z) λy=> ?_;refine a4 (a4 ?_);have e:Q (match es[jc pl.toArray slot]?,pl.toArray[jc pl.toArray slot]? with|some (_,x),some j=>some (x,j+1)|_,_=>none) s:=by rw[hr];exact q
  exact e
noncomputable def slotAt(pl:List Nat)(i:Nat):Nat:=if i=0 then 0 else pl.headD 0+1
theorem L3(hj:j<8):jc #[j] 0=0∧jc #[j] (j+1)=1:=by
 have:(dK 8).all (λj=>jc #[j] 0==0&&jc #[j] (j+1)==1)=true:=by decide+kernel
 simpa using(fU.mp this j (gW.mpr hj))
theorem VI(hh:A.handled=none)(ht:w.params.followText "set-order"=false)(fH:a≠I)(i0:pl∈jX 4)(d8:es.size=pl.length)(h1:es.size≤1):
 Walks ae w A I [I,a] [I] es.size (λi v=>(es.toList.map (·.2))[i]? =some v)
  (λi h=>h.get? I=some (pG (.int (slotAt pl i) 0) i a es.size ep)∧h.get? a=some (kj es ep (cX pl true plain)))where
 sub:=λb hb=>by simp at hb;simp[hb]
 frame:=λy y y st hk=>⟨hk I (by simp) _ st.1,hk a (by simp) _ st.2⟩
 item:=λi s Q E hi st hQ=>by
  have X:nz s.heap a true es ep plain pl:=⟨st.2,i0,d8⟩;have hi0:i=0:=by exact k7 (cQ (b:=1) (ao hi h1)) (eH _)
  subst hi0;obtain⟨j,hj⟩:∃j,pl= [j]:=by
   have:pl.length=1:=by exact k7 (ao (bM d8.symm) h1) (ao hi (bM d8))
   exact Up.mp this
  clear d8;subst hj;have IA:j<8:=by
   have h4:=fU.mp sH [j] i0;simp only[ia]at h4;simpa using h4.1.1.1
  obtain⟨e,he⟩:∃e,es[0]? =some e:=⟨_,uk hi⟩;refine next_item (slot:=0) (nx:=j+1) (x:=e.2) X rfl st.1 (λA E Q q=>Ly (r:=some (e.2,j+1)) X ht h1 A E Q (by rw[show([j]:List Nat).toArray= #[j]from rfl,(L3 IA).1,he];rfl) q) λh' e1 s1=> ?_;refine hQ _ h' s.toks (by simp[he]) ⟨e1,(s1.2 a fH).trans st.2⟩ λb o hb e=>(s1.2 b (λz=>hb (by simp[z]))).trans e
 done:=λs Q E st hQ=>by
  have X:nz s.heap a true es ep plain pl:=⟨st.2,i0,d8⟩;have dD:∃slot,st.1=st.1∧slotAt pl es.size=slot∧es[jc pl.toArray slot]? =none:=by
   refine⟨_,rfl,rfl,?_⟩;rcases Nat.lt_or_ge 0 es.size with z|z
   ·obtain⟨j,hj⟩:∃j,pl= [j]:=by
     have:pl.length=1:=by exact k7 (ao (bM d8.symm) h1) (ao z (bM d8))
     exact Up.mp this
    clear d8 st X;subst hj;have IA:j<8:=by
     have h4:=fU.mp sH [j] i0;simp only[ia]at h4;simpa using h4.1.1.1
    have:slotAt [j] es.size=j+1:=by unfold slotAt;rw[aS (by exact nU z)];rfl
    rw[this,show([j]:List Nat).toArray= #[j]from rfl,(L3 IA).2];exact uo h1
   ·exact uo (by exact ao z (eH _))
  (refine cY dD λslot y hs hn=> ?_;clear dD);have yf:=st.1;rw[hs]at yf;refine next_end (slot:=slot) hh X rfl yf (λA E Q q=>Ly (r:=none) X ht h1 A E Q (by rw[hn]) q) λh' k=> ?_;exact hQ h' s.toks λb o hb e=>k b o (λz=>hb (by simp[z])) e
 self:=λi s Q E st hQ=>Dy st.1 rfl hQ
end
theorem Of{es:Array (Int×au)}:∀{hY:List Nat},(∀q∈hY,q<es.size)→(hY.filterMap λp=>(es[p]?).map (·.2))=hY.map λp=>((es[p]?).map (·.2)).getD .none
 | [],_=>rfl
 |q::r,dU=>by
  rw[Cz];simp only[k9,jq,uk (dU q mM),yQ];rw[Of (λq' h=>dU q' (kF _ h))]
theorem Xd{α:Type}(l:List α):(dK l.length).filterMap (λp=>l[p]?)=l:=by
 induction l with
 |nil=>rfl
 |cons x r ih=>
  rw[List.range_succ_eq_map,Cz];simp only[List.getElem?_cons_zero,List.filterMap_map];congr 1
section
variable{ae:bw}{w:br}{A:bO}{E:au→aE→Prop}{s:aE}{a I T:aI}{led plain:Bool}{es:Array (Int×au)}{ep:Nat}{pl:List Nat}{ks:List K3}
theorem VJ(hh:A.handled=none)(fH:a≠I)(hTI:T≠I)(i0:pl∈jX 4)(d8:es.size=pl.length){hY:List Nat}(hp:hY.Perm (dK es.size)):
 Walks ae w A I [I,a,T] [I] es.size (λi v=>(hY.filterMap λp=>(es[p]?).map (·.2))[i]? =some v)
  (λi h=>h.get? I=some (pG (.ref T) i a es.size ep)∧h.get? a=some (kj es ep (cX pl led plain))∧h.get? T=some {cls:= .type "tuple",data:= .seq (hY.map λ(j:Nat)=>lS j 0).toArray})where
 sub:=λb hb=>by simp at hb;simp[hb]
 frame:=λy y y st hk=>⟨hk I (.head _) _ st.1,hk a (by simp) _ st.2.1,hk T (by simp) _ st.2.2⟩
 item:=λi s Q E hi st hQ=>by
  obtain⟨p,yg⟩:∃p,hY[i]? =some p:=⟨_,cF (by rw[(by rw[hp.length_eq,q9]:hY.length=es.size)];exact hi)⟩;have dU:∀q∈hY,q<es.size:=λq hq=>gW.mp (hp.mem_iff.mp hq);have rY:=dU p (lM yg);refine Wh (x:=es[p].2) (⟨st.2.1,i0,d8⟩) rfl st.1 st.2.2 yg (by rw[uk rY];rfl) λh' e1 s1=> ?_;refine hQ _ h' s.toks (by rw[(Of (es:=es) dU),eM,yg];simp[uk rY]) ⟨e1,(s1.2 a fH).trans st.2.1,(s1.2 T hTI).trans st.2.2⟩ λb o hb e=>(s1.2 b (λz=>hb (by simp[z]))).trans e
 done:=λs Q E st hQ=>by
  refine Xc hh (⟨st.2.1,i0,d8⟩) rfl st.1 st.2.2 (p7 (bM (by rw[hp.length_eq,q9]))) λh' k=> ?_;exact hQ h' s.toks λb o hb e=>k b o (λz=>hb (by simp[z])) e
 self:=λi s Q E st hQ=>Dy st.1 rfl hQ
theorem Yo(X:f7 ae w s.heap a (ip w) ks es ep plain pl)
 (q:∀I h' d (ord:List au) fp St,ord.Perm (es.toList.map (·.2))→(∀b o,s.heap.get? b=some o→h'.get? b=some o)→s.heap.get? I=none→(∀b∈fp,b=a∨s.heap.get? b=none)→
  (∀A:bO,A.handled=none→Walks ae w A I fp [I] es.size (λi v=>ord[i]? =some v) St)→(∀i h o,St i h→h.get? I=some o→o.cls= .type "set_iterator")→St 0 h'→Q (.ref I) {s with heap:=h',drawn:=d}):
 aY (ba ae w) A (ng (.ref a)) Q E s:=by
 have hT:s.TypeIs (.ref a) "set":=⟨_,X.at',rfl⟩;have ha:a<s.heap.objs.size:=dy X.at';have u7:∀n,s.heap.objs.size≤n→s.heap.get? n=none:=λn hn=>by
  cases q:s.heap.get? n with
  |none=>rfl
  |some o=>exact bP (dy q) (eP.mpr hn)
 refine wpAny_pyIter_slot hT slot_set_iter (kY slot_set_iter hT UT ?_ (U5 _));refine aB (m:=Builtin.Frozenset.slot0 "__iter__" _) (a4 ?_);refine aB (m:=Builtin.Frozenset.sizeOf a) ?_;refine aB (m:=zC a) (aB (X.state (a4 ?_)));refine a4 ?_;refine aB (m:=setDrawn a) ?_;refine aB (X.state ?_);refine aB ?_;refine aB (uv (a4 ?_));refine a4 ?_;show aY _ _ (if(!w.params.followText "set-order"&&(!plain&&decide (es.size>1)))=true then _ else _) _ _ _;have L4:∀(first:au) (h1:aF) (d1:Drawn),(∀b o,s.heap.get? b=some o→h1.get? b=some o)→f7 ae w h1 a (ip w) ks es ep plain pl→
  (Q (.ref h1.objs.size) {s with heap:=h1.push (pG first 0 a es.size ep),drawn:=d1})→
  aY (ba ae w) A.in1 (do
   let e←setEpoch a
   let f←newFields "set_iterator" [first,je 0,.ref a,je es.size,je e]
   ret f) (λfin s'=>∃v,fin=Fin.done (Flow.ret v)∧∃T' r,s'.TypeIs v T'∧zD (fV T') (lg "__next__")=pure (some r)∧Q v s') E {s with heap:=h1,drawn:=d1}:=λfirst h1 d1 k1 X1 hq=>by
  refine aB (m:=setEpoch a) (aB (f7.state (s:={s with heap:=h1,drawn:=d1}) X1 (a4 ?_)));refine aB (nP (a4 ⟨_,rfl,"set_iterator",_,⟨_,fP _ rfl,rfl⟩,oV.lookup,hq⟩))
 refine kG (λhc=> ?_) (λhc=> ?_)
 ·refine aB (Lx es.size (dK es.size) _ q9 λhY d hp=> ?_);refine aB (nP ?_ (by
   show(List.map _ hY).toArray.size≤_;have:=X.Hp;have:=X.kT;rw[si,bB,hp.length_eq,q9,qe];omega))
  refine L4 _ _ d (λb o e=>cR _ e) ((λh1 k=>X.move (λo e=>k a o e) λb o z e=>k b o e:∀(h1:aF),(∀b o,s.heap.get? b=some o→h1.get? b=some o)→f7 ae w h1 a (ip w) ks es ep plain pl) _ λb o e=>cR _ e) ?_;have hrs:(s.heap.push {cls:= .type "tuple",data:= .seq (hY.map λ(j:Nat)=>lS j 0).toArray}).objs.size=s.heap.objs.size+1:=gY ..;refine q _ _ d (hY.filterMap λp=>(es[p]?).map (·.2)) _ _ ?_ (λb o e=>(λh1 o k b o' e=>cR _ (k b o' e):∀(h1:aF) (o:Obj),(∀b o,s.heap.get? b=some o→h1.get? b=some o)→∀b o',s.heap.get? b=some o'→(h1.push o).get? b=some o') _ _ (λb o e=>cR _ e) b o e) (u7 _ (by rw[gY];exact rm _)) ?_
   (λA' yh=>VJ (led:=ip w) (plain:=plain) (T:=s.heap.objs.size) (ep:=ep) (pl:=pl) yh ?_ ?_ X.mx X.kT hp) (λi h o st e=> ?_) ⟨fP _ rfl,?_,?_⟩
  ·refine(hp.filterMap _).trans ?_;have e1:(λp:Nat=>sD (λe:Int×au=>e.2) es[p]?)=λp:Nat=>(es.toList.map (λe:Int×au=>e.2))[p]? :=by funext p;simp
   rw[e1];have:=Xd (es.toList.map (λe:Int×au=>e.2));rw[bB]at this;rw[this]
  ·intro b hb;rw[gY]at hb;simp only[cG,ff,fg]at hb;rcases hb with rfl|rfl|rfl
   ·exact .inr (u7 _ (rm _))
   ·exact .inl rfl
   ·exact .inr (u7 _ (cH _))
  ·rw[gY];exact gK (rd ha)
  ·rw[gY];exact gK (qb _)
  ·rw[st.1]at e;(refine cj e λaL=> ?_;clear e;subst aL);rfl
  ·exact cR _ (cR _ X.at')
  ·exact cR _ (fP _ rfl)
 ·refine aB (a4 ?_);refine L4 _ s.heap s.drawn (λb o e=>e) X ?_;have Qn:∀b∈ [s.heap.objs.size,a],b=a∨s.heap.get? b=none:=λb hb=>by
   simp only[cG,ff,fg]at hb;rcases hb with rfl|rfl
   ·exact .inr (u7 _ (cH _))
   ·exact .inl rfl
  cases ht:w.params.followText "set-order" with
  |true=>
   refine q _ _ s.drawn ((zO (w.params.setOrder a ep) es).toList.map (·.2)) _ _ ((DI _ es).map _) (λb o e=>cR _ e) (u7 _ (cH _)) Qn
    (λA' yh=>Wi (led:=ip w) (plain:=plain) (ep:=ep) (pl:=pl) yh ht (gK ha) X.mx X.kT) (λi h o st e=> ?_) ⟨fP _ rfl,cR _ X.at'⟩
   rw[st.1]at e;(refine cj e λaL=> ?_;clear e;subst aL);rfl
  |false=>
   have h1:es.size≤1:=by
    rw[ht]at hc;rcases X.MJ with e|e
    ·rw[e]at hc;lia
    ·have:=X.pY;rw[e]at this;have:=X.kT;simp at*;lia
   have aeX:ip w=true:=by unfold ip;rw[ht];rfl
   have X':=X.at';rw[aeX]at X';refine q _ _ s.drawn (es.toList.map (·.2)) _ _ (.refl _) (λb o e=>cR _ e) (u7 _ (cH _)) Qn
    (λA' yh=>VI (plain:=plain) (ep:=ep) (pl:=pl) yh ht (gK ha) X.mx X.kT h1) (λi h o st e=> ?_) ⟨fP _ rfl,cR _ X'⟩
   rw[st.1]at e;(refine cj e λaL=> ?_;clear e;subst aL);rfl
end
section
variable{ae:bw}{w:br}{A:bO}{E:au→aE→Prop}{s:aE}{a:aI}{ks:List K3}
theorem VK{R:List au→aE→Prop}(hh:A.handled=none)(X:pF ae w s.heap a ks)
 (h:∀(h':aF) (tk:TK) (vs:List au),(∀b o,s.heap.get? b=some o→h'.get? b=some o)→(∃es ep plain pl,f7 ae w s.heap a (ip w) ks es ep plain pl∧vs.Perm (es.toList.map (·.2)))→R vs {s with heap:=h',toks:=tk.1,drawn:=tk.2}):
 aY (ba ae w) A (collect (.ref a)) R E s:=by
 refine G6 X λes ep plain pl X=> ?_;have hn:es.size≤sM:=by
  have:=X.Hp;have:=X.kT;rw[qe];omega
 refine aB (wpAny_runValue (sj entry_proto_collect' ?_));refine aB (nP ?_);refine a4 ⟨rk PySem.F.plain_list_iadd _,sj entry_list_iadd' ?_⟩;have pD:(s.heap.push {cls:= .type "list",data:= .seq ([]:List au).toArray}).get? s.heap.objs.size=some {cls:= .type "list",data:= .seq #[]}:=fP _ rfl;generalize BF:s.heap.push {cls:= .type "list",data:= .seq ([]:List au).toArray}=h1 at pD;have k1:∀b o,s.heap.get? b=some o→h1.get? b=some o:=λb o e=>BF▸cR _ e;have X1:=X.move (h':=h1) (λo e=>k1 a o e) λb o x e=>k1 b o e;have Sj:s.heap.objs.size≠a:=nU (dy X.at');show aY _ A.in1 (TP (.ref s.heap.objs.size) (.ref a) (.ref s.heap.objs.size)) _ _ {s with heap:=h1};have hT1:wG {s with heap:=h1} (.ref a) "set":=⟨_,X1.at',rfl⟩;refine aB (sq hT1 ?_);have adu:Ce (.ref s.heap.objs.size) (.ref a)=false:=by simp[Ce,Sj]
 refine kG (λz=>bP z (by rw[adu];decide)) λx=> ?_;refine aB (Yo (s:={s with heap:=h1}) X1 λI h2 d ord fp St hp k2 hI hfp W cC st=> ?_);have Sk:wG {s with heap:=h2,drawn:=d} (.ref a) "set":=⟨_,k2 _ _ X1.at',rfl⟩;refine aB (fA (Yn Sk ?_));have vi:h2.get? s.heap.objs.size=some {cls:= .type "list",data:= .seq #[]}:=k2 _ _ pD;have qP:s.heap.objs.size∉fp:=λm=>by
  rcases hfp _ m with e|e
  ·exact Sj e
  ·rw[pD]at e;(first|exact aQ e|exact dA e)
 have hSI:s.heap.objs.size≠I:=λe=>by rw[←e,pD]at hI;(first|exact aQ hI|exact dA hI)
 have fin:∀(c:Nat) (h3:aF),St 0 h3→(∀b o,b≠s.heap.objs.size→h2.get? b=some o→h3.get? b=some o)→h3.get? s.heap.objs.size=some {cls:= .type "list",data:= .seq #[] c}→
  jQ (ba ae w) A (.builtin "list.extend.loop" ⟨[.ref s.heap.objs.size,.ref I,.ref s.heap.objs.size],[]⟩) (λq s'=>∃(h':aF) (tk:Nat) (iP:Array au) (c':Nat),q= .ok (.ret (.ref s.heap.objs.size))∧s'={s with heap:=h',toks:=tk,drawn:=d}∧
   (∀b o,s.heap.get? b=some o→h'.get? b=some o)∧h'.get? s.heap.objs.size=some {cls:= .type "list",dict:=none,data:= .seq iP c',slots:= #[]}∧iP.toList=ord) {s with heap:=h3,drawn:=d}:=λc h3 st3 k3 tf=>by
  refine codeAny_extend_loopS (W A.in1 hh).toS hn s.heap.objs.size qP _ es.size 0 _ #[] c rfl (eH _) st3 tf (ItemsOf.nil _) λs' iP c' hm mq tE=> ?_;obtain⟨h',g',d',c6,ye⟩:=s';have eg:g'=s.gens:=hm.gens;have ed:d'=d:=hm.drawn;have eo:ye=s.os:=hm.os;subst eg;clear Sk;subst ed;subst eo;refine⟨h',c6,iP,c',rfl,rfl,λb o e=> ?_,mq,?_⟩
  ·have hb:b≠s.heap.objs.size:=gK (dy e);have hbI:b≠I:=λz=>by rw[←z,k1 b o e]at hI;(first|exact aQ hI|exact dA hI)
   exact hm.heap b o (by simp[hb,hbI]) (k3 b o hb (k2 b o (k1 b o e)))
  ·apply uu;intro j;rw[gI];by_cases hj:j<es.size
   ·obtain⟨v,hv⟩:∃v,iP[j]? =some v:=⟨_,uk (by rw[tE.1];exact hj)⟩;rw[hv,tE.2 j v hv]
   ·rw[uo (by rw[tE.1];exact eP.mp hj),p7 (ao (bM (by rw[hp.length_eq,bB,gw])) (eP.mp hj))]
 have back:∀(q:Result) (s':aE),(∃(h':aF) (tk:Nat) (iP:Array au) (c':Nat),q= .ok (.ret (.ref s.heap.objs.size))∧s'={s with heap:=h',toks:=tk,drawn:=d}∧
  (∀b o,s.heap.get? b=some o→h'.get? b=some o)∧h'.get? s.heap.objs.size=some {cls:= .type "list",dict:=none,data:= .seq iP c',slots:= #[]}∧iP.toList=ord)→
  aY (ba ae w) A (do let o←load s.heap.objs.size;match o.data with| .seq xs _=>pure xs.toList|_=>unsupported "internal:collect") R E s':=λq s' y=>by
  (refine P6 y λh' tk iP c' z_9 aeY hk mq tE=> ?_;clear y;subst z_9;subst aeY);refine aB (wpAny_load mq ?_);exact a4 (h h' (tk,d) _ hk ⟨es,ep,plain,pl,X,tE▸hp⟩)
 refine kG (λx=> ?_) (λx=>a4 ⟨rk Cd _,sr (fin 0 _ st (λb o x e=>e) vi) λq fF y=> ?_⟩)
 ·refine aB (rt ?_);refine aB ?_;refine aB (yW vi rfl ?_);have tf:=yA (nW (·.push lh)) vi rfl;refine yW (hz:=by seq_fits) tf rfl ?_;refine a4 ⟨rk Cd _,sr (fin _ _ ((W A hh).frame 0 _ _ st λb hb o e=> ?_) (λb o hb e=> ?_) (yA (nW (·.pop)) tf rfl)) λq fF y=> ?_⟩
  ·have Sl:b≠s.heap.objs.size:=λh=>qP (h▸hb);exact(r8 _ _ (sW Sl)).trans ((r8 _ _ (sW Sl)).trans e)
  ·exact(r8 _ _ (sW hb)).trans ((r8 _ _ (sW hb)).trans e)
  ·(refine xF y λh' tk iP c' yi z=> ?_;clear y;subst yi);exact back _ _ ⟨h',tk,iP,c',rfl,z⟩
 ·(refine xF y λh' tk iP c' yi z=> ?_;clear y;subst yi);exact back _ _ ⟨h',tk,iP,c',rfl,z⟩
end
noncomputable def vZ{α:Type}(lt:Nat→Nat→Bool):KasT α→α
 | .ret a=>a
 | .ask i j k=>vZ lt (k (lt i j))
def mz(x y:String):Bool:=decide ((S x).cps.toList<(S y).cps.toList)
def fx(a b:K3):Bool:=if a.1=b.1 then(if a.2.1=b.2.1 then decide (a.2.2<b.2.2)else mz a.2.1 b.2.1)else decide (a.1<b.1)
section
variable{ae:bw}{w:br}{A:bO}{E:au→aE→Prop}{s:aE}
theorem adv{k k':K3}{v':au}{Q:Bool→aE→Prop}(x:d6 ae w s.heap k v)(y:d6 ae w s.heap k' v')(h:Q (fx k k') s):aY (ba ae w) A (keyLt' (tuples' true) v v') Q E s:=by
 replace x:=x.key;obtain⟨a,rfl,o,xs,n,ho,_,hd,hi⟩:=x;replace y:=y.key;obtain⟨b,rfl,o',ys,n',i3,_,qQ,gv⟩:=y;obtain⟨a1,a2,a3⟩:=k;obtain⟨b1,b2,b3⟩:=k';refine kat_lt ho hd i3 qQ ?_;have e1:xs.size=3:=by rw[←gw,←hi.length];rfl
 have e2:ys.size=3:=by rw[←gw,←gv.length];rfl
 rw[e1,e2];generalize xs.toList=l at hi⊢;generalize ys.toList=l' at gv⊢;obtain _| @⟨_,u1,_,_,p1,_| @⟨_,u2,_,_,p2,_| @⟨_,u3,_,_,p3,⟨⟩⟩⟩⟩:=hi
 obtain _| @⟨_,v1,_,_,q1,_| @⟨_,v2,_,_,q2,_| @⟨_,v3,_,_,q3,⟨⟩⟩⟩⟩:=gv
 have uc:=lN (show mU a1 u1=true from p1);have BR:=q7 (show rl (S a2) u2=true from p2);have vY:=lN (show mU a3 u3=true from p3);have BB:=lN (show mU b1 v1=true from q1);have yj:=q7 (show rl (S b2) v2=true from q2);have Sm:=lN (show mU b3 v3=true from q3);(refine bG uc λt1 aM=> ?_;clear uc;clear p1;subst aM);(refine bG BR λt2 aM=> ?_;clear BR;clear p2;subst aM);(refine bG vY λt3 aM=> ?_;clear vY;clear p3;subst aM);(refine bG BB λt4 aM=> ?_;clear BB;clear q1;subst aM);(refine bG yj λt5 aM=> ?_;clear yj;clear q2;subst aM);(refine bG Sm λt6 aM=> ?_;clear Sm;clear q3;subst aM);unfold fx at h;dsimp only[List.zip_cons_cons,List.zip_nil_right]at h⊢;refine kat_cons (Kc ?_);refine kat_go (λe=>kat_yes ?_) (λe=>kat_no ?_)
 ·have e':a1=b1:=by simpa using e
  rw[aP e']at h;refine kat_cons (wpAny_eqBool_str ?_);refine kat_go (λe=>kat_yes ?_) (λe=>kat_no ?_)
  ·have e2:a2=b2:=jz (by simpa using e);rw[aP e2]at h;refine kat_cons (Kc ?_);refine kat_go (λe=>kat_yes ?_) (λe=>kat_no ?_)
   ·refine kat_nil ?_;have:a3=b3:=by simpa using e
    rw[this]at h;simpa using h
   ·exact kat_one _ _ (P.lt_int h)
  ·have e2:¬a2=b2:=λz=>by rw[z]at e;simp at e
   rw[aS e2]at h;exact kat_one _ _ (P.lt_str h)
 ·rw[aS (by simpa using e)]at h;exact oneLt_int h
end
noncomputable def ltB(b:List Bool)(i j:Nat):Bool:=if i<j then b.getD (if i=0 then j-1 else i+j) false else if j<i then !(b.getD (if j=0 then i-1 else i+j) false)else false
noncomputable def xO{α:Type}(n:Nat)(lt:Nat→Nat→Bool):KasT α→Bool
 | .ret _=>true
 | .ask i j k=>decide (i<n)&&decide (j<n)&&xO n lt (k (lt i j))
theorem Nr{α:Type}{cmp:Nat→Nat→(Bool→aE→Prop)→aE→Prop}{n:Nat}{lt:Nat→Nat→Bool}{s:aE}(hc:∀i j C,i<n→j<n→C (lt i j) s→cmp i j C s){Q:α→aE→Prop}:∀{t:KasT α},xO n lt t=true→Q (vZ lt t) s→t.kasWp cmp Q s
 | .ret _,_,h=>h
 | .ask i j k,hb,h=>by
  have b1:=h8.mp (show(decide (i<n)&&decide (j<n)&&xO n lt (k (lt i j)))=true from hb);have b2:=h8.mp b1.1;exact hc i j _ (fQ b2.1) (fQ b2.2) (Nr hc b1.2 h)
noncomputable def E0:Nat→List (List Bool)
 |0=> [[]]
 |n+1=>(E0 n).flatMap λl=> [true::l,false::l]
theorem Yp:∀(l:List Bool),l∈E0 l.length:=by
 intro x0
 induction x0 with
 |nil=>exact .head _
 |cons b l ih=>
  exact wm.mpr ⟨l,ih,by cases b<;>simp⟩
def Ey(n:Nat)(b:List Bool):Bool:=(dK n).all λi=>(dK n).all λj=>(dK n).all λk=> !(ltB b i j)|| !(ltB b j k)||ltB b i k
def Sn(n:Nat)(b:List Bool):Bool:=xO n (ltB b) (wZ n)&&(vZ (ltB b) (wZ n)).toList.isPerm (dK n)&&decide ((vZ (ltB b) (wZ n)).toList.Pairwise λi j=>ltB b i j=true)
theorem Xe:([2,3,4].all λn=>(E0 6).all λb=> !(Ey n b)||Sn n b)=true:=by decide+kernel
theorem Yq{n:Nat}{b:List Bool}(h2:2≤n)(h4:n≤4)(hb:b.length=6)(ht:∀i<n,∀j<n,∀k<n,ltB b i j=true→ltB b j k=true→ltB b i k=true):
 xO n (ltB b) (wZ n)=true∧(vZ (ltB b) (wZ n)).toList.Perm (dK n)∧(vZ (ltB b) (wZ n)).toList.Pairwise λi j=>ltB b i j=true:=by
 have hn:n∈ [2,3,4]:=by
  have:n=2∨n=3∨n=4:=by lia
  clear h2 h4 ht;rcases this with rfl|rfl|rfl<;>simp
 have h1:=fU.mp (fU.mp Xe n hn) b (hb▸Yp b);have h3:Ey n b=true:=by
  simp only[Ey,fU,gW];intro i hi j hj k hk;cases e1:ltB b i j with
  |false=>simp
  |true=>
   cases e2:ltB b j k with
   |false=>simp
   |true=>simp[ht i hi j hj k hk e1 e2]
 rw[h3]at h1;simp only[Bool.not_true,y9,Sn,ia,ja]at h1;exact⟨h1.1.1,List.isPerm_iff.mp h1.1.2,h1.2⟩
theorem aaJ(x:String):mz x x=false:=by simp[mz,List.lt_irrefl]
theorem aaK{x y:String}(h:(S x).cps.toList=(S y).cps.toList):x=y:=by
 apply jz;have:(S x).cps=(S y).cps:=by rw[←Array.toList_inj];exact h
 cases hx:S x;cases hy:S y;rw[hx,hy]at this;simpa using this
theorem aaL{x y:String}(h:x≠y):mz y x= !mz x y:=by
 unfold mz;by_cases h1:(S x).cps.toList<(S y).cps.toList
 ·have:¬(S y).cps.toList<(S x).cps.toList:=List.lt_asymm h1;simp[h1,this]
 ·have:(S y).cps.toList<(S x).cps.toList:=by
   rcases List.le_iff_lt_or_eq.mp (List.not_lt.mp h1)with q|q
   ·exact q
   ·exact bP (aaK q).symm h
  simp[h1,this]
theorem L5{x y z:String}(h1:mz x y=true)(h2:mz y z=true):mz x z=true:=by
 unfold mz at*;simp only[ja]at*;exact List.lt_trans h1 h2
theorem w9(a:K3):fx a a=false:=by simp[fx]
theorem Nu{a b:K3}(h:a≠b):fx b a= !fx a b:=by
 obtain⟨a1,a2,a3⟩:=a;obtain⟨b1,b2,b3⟩:=b;unfold fx;dsimp only;by_cases e1:a1=b1
 ·subst e1;rw[aP rfl,aP rfl];by_cases e2:a2=b2
  ·subst e2;have e3:a3≠b3:=λz=>h (by rw[z]);by_cases q:a3<b3
   ·have:¬b3<a3:=lQ.mpr (dS q);simp[q,this]
   ·have:b3<a3:=by lia
    simp[q,this]
  ·rw[aS e2,aS λz=>e2 z.symm];exact aaL e2
 ·rw[aS e1,aS λz=>e1 z.symm];by_cases q:a1<b1
  ·have:¬b1<a1:=lQ.mpr (dS q);simp[q,this]
  ·have:b1<a1:=by lia
   simp[q,this]
theorem zE{a b c:K3}(h1:fx a b=true)(h2:fx b c=true):fx a c=true:=by
 obtain⟨a1,a2,a3⟩:=a;obtain⟨b1,b2,b3⟩:=b;obtain⟨c1,c2,c3⟩:=c;unfold fx at*;dsimp only at*;by_cases e1:a1=b1
 ·subst e1;replace h1:=(aP rfl).symm.trans h1;by_cases e2:a1=c1
  ·subst e2;rw[aP rfl]at h2⊢;by_cases f1:a2=b2
   ·subst f1;rw[aP rfl]at h1;by_cases f2:a2=c2
    ·subst f2;rw[aP rfl]at h2⊢;simp only[ja]at*;exact oX h1 h2
    ·rw[aS f2]at h2⊢;exact h2
   ·replace h1:=(aS f1).symm.trans h1;by_cases f2:b2=c2
    ·clear h2;subst f2;rw[aS f1];exact h1
    ·rw[aS f2]at h2;have f3:a2≠c2:=λz=>by
      clear f2;subst z;have:=L5 h1 h2;rw[aaJ]at this;(first|exact aQ this|exact dA this|exact cL this)
     rw[aS f3];exact L5 h1 h2
  ·rw[aS e2]at h2⊢;exact h2
 ·rw[aS e1]at h1;simp only[ja]at h1;by_cases e2:b1=c1
  ·clear h2;subst e2;rw[aS e1];simpa using h1
  ·rw[aS e2]at h2;simp only[ja]at h2;rw[aS (Int.ne_of_lt (oX h1 h2))];simp only[ja];exact oX h1 h2
noncomputable def qC(a:K3):List K3→List K3
 | []=> [a]
 |b::l=>if a=b then b::l else if fx a b then a::b::l else b::qC a l
def iQ(l:List K3):List K3:=l.foldr qC []
theorem DT{a x:K3}:∀{l:List K3},x∈qC a l↔x=a∨x∈l
 | []=>by show x∈ [a]↔_;simp
 |b::l=>by
  show x∈(if a=b then b::l else if fx a b then a::b::l else b::qC a l)↔_;by_cases h:a=b
  ·rw[aP h];subst h;simp
  ·rw[aS h];split
   ·simp
   ·rw[cG,DT,cG];constructor
    ·rintro(h|h|h)<;>simp[h]
    ·rintro(h|h|h)<;>simp[h]
theorem uQ{x:K3}:∀{l:List K3},x∈iQ l↔x∈l
 | []=>by rfl
 |b::l=>by
  show x∈qC b (iQ l)↔_;rw[DT,uQ,cG]
theorem Nv{a:K3}:∀{l:List K3},l.Pairwise (λx y=>fx x y=true)→(qC a l).Pairwise (λx y=>fx x y=true)
 | [],_=>Ug _ _
 |b::l,h=>by
  show(if a=b then b::l else if fx a b then a::b::l else b::qC a l).Pairwise _;by_cases e:a=b
  ·rw[aP e];exact h
  ·rw[aS e];have hb:=sf.mp h;split
   ·rename_i q;refine sf.mpr ⟨λy hy=> ?_,h⟩;rcases cG.mp hy with rfl|hy
    ·exact q
    ·exact zE q (hb.1 y hy)
   ·rename_i q;refine sf.mpr ⟨λy hy=> ?_,Nv hb.2⟩;rcases DT.mp hy with rfl|hy
    ·rw[Nu e];simpa using q
    ·exact hb.1 y hy
theorem xa:∀(l:List K3),(iQ l).Pairwise (λx y=>fx x y=true):=by
 intro x0
 induction x0 with
 |nil=>simp[iQ]
 |cons b l ih=>exact Nv (ih)
theorem zF:∀{l r:List K3},l.Pairwise (λx y=>fx x y=true)→r.Pairwise (λx y=>fx x y=true)→(∀x,x∈l↔x∈r)→l=r
 | [],[],_,_,_=>rfl
 | [],b::r,_,_,h=>by have:=(h b).mpr (.head _);simp at this
 |a::l,[],_,_,h=>by have:=(h a).mp (.head _);simp at this
 |a::l,b::r,h1,h2,h=>by
  have p1:=sf.mp h1;have p2:=sf.mp h2;have e:a=b:=by
   rcases cG.mp ((h a).mp (.head _))with e|e
   ·exact e
   ·rcases cG.mp ((h b).mpr (.head _))with e'|e'
    ·exact e'.symm
    ·have:=zE (p1.1 b e') (p2.1 a e);rw[w9]at this;(first|exact aQ this|exact dA this|exact cL this)
  subst e;rw(config:={}) [zF p1.2 p2.2 λx=> ?_];have hx:=h x;simp only[cG]at hx;constructor
  ·intro m;rcases hx.mp (.inr m)with rfl|q
   ·have:=p1.1 x m;rw[w9]at this;(first|exact aQ this|exact dA this|exact cL this)
   ·exact q
  ·intro m;rcases hx.mpr (.inr m)with rfl|q
   ·have:=p2.1 x m;rw[w9]at this;(first|exact aQ this|exact dA this|exact cL this)
   ·exact q
variable{kz:List K3}
section
variable{ae:bw}{w:br}{A:bO}{E:au→aE→Prop}{s:aE}{ag:aF}{L:aI}{m:Str→Option au}
def iU(ae:bw)(w:br)(h:aF)(vs:List au)(kz:List K3):Prop:=kz.length=vs.length∧∀(i:Nat) k v,kz[i]? =some k→vs[i]? =some v→d6 ae w h k v
theorem iU.getD{h:aF}(X:iU ae w h vs kz)(hi:i<vs.length):d6 ae w h (kz.getD i default) (vs.getD i .none):=by
 refine X.2 i _ _ ?_ ?_
 ·rw[eX,cF (X.1▸hi)];rfl
 ·rw[eX,cF hi];rfl
theorem Nw{h:aF}:∀{vs:List au} {kz:List K3},iU ae w h vs kz→∃fs,KatTups h vs fs∧fs.length=vs.length∧∀v∈fs,∃i t,v= .int i t
 | [],_,_=>⟨[],trivial,rfl,λv h=>by cases h⟩
 |v::vs,[],X=>by have:=X.1;simp at this
 |v::vs,k::kz,X=>by
  obtain⟨fs,h1,h2,h3⟩:=Nw (vs:=vs) (kz:=kz) ⟨by have:=X.1;simpa using this,λi k v e1 e2=>X.2 (i+1) k v (by simpa using e1) (by simpa using e2)⟩;obtain⟨a,rfl,o,xs,n,ho,hc,hd,hi⟩:=(X.2 0 k v rfl rfl).key;cases hx:xs.toList with
  |nil=>rw[hx]at hi;cases hi
  |cons u us=>
   rw[hx]at hi;cases hi with
   |cons p _=>
    (refine bG (lN p) λt aM=> ?_;clear p;subst aM);refine⟨.int k.1 t::fs,KatTups.cons ho hc hd ?_ h1,by simp[h2],λv hv=> ?_⟩
    ·rw[←gI,hx];rfl
    ·rcases cG.mp hv with rfl|hv
     ·exact⟨_,_,rfl⟩
     ·exact h3 v hv
theorem Lz{p:List Nat}(hp:p.Perm (dK kz.length))(hs:p.Pairwise λi j=>fx (kz.getD i default) (kz.getD j default)=true):p.map (λi=>kz.getD i default)=iQ kz:=by
 refine zF (List.pairwise_map.mpr hs) (xa _) λx=> ?_;rw[uQ,dR];constructor
 ·rintro⟨i,hi,rfl⟩;have:=gW.mp (hp.mem_iff.mp hi);rw[eX,cF this];exact mN this
 ·intro hx;obtain⟨i,hi,rfl⟩:=List.getElem_of_mem hx;refine⟨i,hp.mem_iff.mpr (gW.mpr hi),?_⟩;rw[eX,cF hi];rfl
def xi(kz:List K3):List Bool:= [(0,1),(0,2),(0,3),(1,2),(1,3),(2,3)].map λp=>fx (kz.getD p.1 default) (kz.getD p.2 default)
theorem Yr(ya:kz.Nodup)(h4:kz.length≤4)(hi:i<kz.length)(hj:j<kz.length):ltB (xi kz) i j=fx (kz.getD i default) (kz.getD j default):=by
 have key:∀i j,i<j→j<kz.length→(xi kz).getD (if i=0 then j-1 else i+j) false=fx (kz.getD i default) (kz.getD j default):=by
  intro i j BS hj;have:(i=0∧j=1)∨(i=0∧j=2)∨(i=0∧j=3)∨(i=1∧j=2)∨(i=1∧j=3)∨(i=2∧j=3):=
   (by decide:∀j<4,∀i<j,(i=0∧j=1)∨(i=0∧j=2)∨(i=0∧j=3)∨(i=1∧j=2)∨(i=1∧j=3)∨(i=2∧j=3)) j (yI hj h4) i BS
  clear BS hj;rcases this with⟨rfl,rfl⟩|⟨rfl,rfl⟩|⟨rfl,rfl⟩|⟨rfl,rfl⟩|⟨rfl,rfl⟩|⟨rfl,rfl⟩<;>rfl
 unfold ltB;by_cases h1:i<j
 ·rw[aP h1];exact key i j h1 hj
 ·rw[aS h1];by_cases h2:j<i
  ·rw[aP h2,Dk i j,key j i h2 hi];have:kz.getD j default≠kz.getD i default:=by
    rw[eX,cF hj,eX,cF hi];intro z;have:=(List.getElem_inj ya).mp (show kz[j]=kz[i]from z);exact bP (bM this.symm) (ry.mpr h2)
   rw[Nu this]
  ·have:i=j:=k7 (eP.mp h2) (eP.mp h1);clear hj h1;subst this;rw[aS h2,w9]
theorem aaM(F:Fr ag L s.heap m){n:Nat}(ho:s.heap.get? D=some (oh "list" vs.toArray n))(hD:D≠L)(h0:ag.get? D=none)(hk:iU ae w s.heap vs kz)(ya:kz.Nodup)(h4:vs.length≤4)
 (h:∀(h':aF) (c:Nat) (out:List au),Fr ag L h' m→(∀a o,s.heap.get? a=some o→a≠D→a≠L→h'.get? a=some o)→h'.get? D=some (oh "list" out.toArray c)→(∃p:List Nat,p.Perm (dK vs.length)∧out=p.map (λi=>vs.getD i .none)∧p.map (λi=>kz.getD i default)=iQ kz)→Q .none {s with heap:=h'}):
 aY (ba ae w) A (call (.builtin "list.sort") [.ref D]) Q E s:=by
 refine kY slot_list_sort ⟨_,ho,rfl⟩ entry_list_sort ?_ (args_list_sort _);have jG:kz.length=vs.length:=hk.1;by_cases h2:vs.length<2
 ·rw[list_sort_plain];refine aB (listItems_at ho rfl ?_);refine aB (listUpdate_at ho rfl ?_ (by rw[qe];exact ao h4 (aK rfl)) (eH _));obtain⟨e1,BU⟩:∃e1,(s.heap.update D (nW λy=> #[])).get? D=some (oh "list" #[] e1):=⟨_,CZ ho (λy=> #[])⟩;refine aB (seqEpoch_at BU rfl ?_);refine aB (wpAny_newTuple ?_ (by rw[qe];exact ao h4 (aK rfl)));refine aB (wpAny_newList ?_ (eH _));refine fA ?_;have IB:(((s.heap.update D (nW λy=> #[])).push (oh "tuple" vs.toArray 0)).push (oh "list" #[] 0)).get? D=some (oh "list" #[] e1):=
   cR _ (cR _ BU)
  have qN:vs.toArray.size<2:=si▸h2;rw[aP qN,aP qN];refine aB (a4 ?_);refine aB (a4 ?_);refine aB (seqEpoch_at IB rfl ?_);have aeZ:(arrOf (SortSt.mk' general' (vs.toArray.zip vs.toArray) #[] 7 none)).map (·.2)=vs.toArray:=by
   apply Array.toList_inj.mp;rw[Array.toList_map,Array.toList_zip];exact List.map_snd_zip (cH _)
  rw[aeZ];refine aB (listUpdate_at IB rfl ?_ (eH _) (by rw[si];exact ao h4 (aK rfl)));simp only[bne_self_eq_false,CC,if_false];refine a4 ⟨_,rfl,?_⟩;obtain⟨c2,IC⟩:∃c2,((((s.heap.update D (nW λy=> #[])).push (oh "tuple" vs.toArray 0)).push (oh "list" #[] 0)).update D (nW λy=>vs.toArray)).get? D=some (oh "list" vs.toArray c2):=⟨_,CZ IB λy=>vs.toArray⟩;refine h _ c2 vs (kas_fr (((kas_fr F (yF s.heap D (nW λy=>(#[]:Array au))) hD h0).push _).push _) (yF _ D _) hD h0) (λa o e n1 n2=> ?_) IC ⟨dK vs.length,.refl _,?_,?_⟩
  ·exact(yD _ _ _ _ n1).trans (cR _ (cR _ ((yD _ _ _ _ n1).trans e)))
  ·apply uu;intro i;by_cases hi:i<vs.length
   ·rw[eM];simp[eX,hi]
   ·rw[p7 (eP.mp hi),p7 (by simp;exact eP.mp hi)]
  ·rw[←jG];refine Lz (.refl _) ?_;have:kz.length=0∨kz.length=1:=by lia
   rcases this with z|z<;>rw[z]<;>simp[List.range_succ]
 ·have yk:2≤vs.length:=eP.mp h2;have N:News ag L s.heap ((og ag s.heap L).filter λp=>p.1≠D):=λp hp=>qh p ((ib.mp hp).1);refine kat_list_sort F N ho hD h0 (λp hp=>by simpa using(ib.mp hp).2) yk (ao (bH h4 1) (aK rfl)) λe1 h1 F1 N1=> ?_;have AJ:∀h',Fr ag L h' m→(∀o,News ag L h' ((D,o)::(og ag s.heap L).filter λp=>p.1≠D)→∀a o,s.heap.get? a=some o→a≠D→a≠L→h'.get? a=some o):=λh' F' o' N' a o e n1 n2=>by
   cases q:ag.get? a with
   |some o2=>have:=F.keep a o2 q;rw[e]at this;(refine cj this λaL=> ?_;clear this;subst aL);exact F'.keep a o q
   |none=>exact(N' _ (kF _ (ib.mpr ⟨rA.mpr ⟨e,q,n2⟩,by simpa using n1⟩))).1
  have k1:=AJ h1 F1 _ N1;have fJ:iU ae w h1 vs kz:=⟨hk.1,λi k v e1 e2=>by
   have x:=hk.2 i k v e1 e2;(refine pK x λa xs n' gR o ht hi=> ?_;clear x;clear e2;subst gR);refine⟨a,xs,n',rfl,o,k1 a _ ht (λz=> ?_) (λz=> ?_),hi⟩
   ·clear hD h0 h N N1 AJ k1;subst z;have:=ho.symm.trans ht;injection this with this;exact bP (Kt (bV Obj.cls this)) (by decide)
   ·clear hD h N F1 N1 AJ k1;subst z;exact(sG ⟨_,F.ns⟩ ht:False)⟩
  refine cY (Nw fJ) λfs t1 t2 t3=> ?_;refine kat_kind t1 (cQ (b:=1) (ao (ao (eP.mp h2) (bM t2.symm)) (bR _ 1))) (T:= .type "int") (λv hv=>by obtain⟨i,t,rfl⟩:=t3 v hv;exact Looks.of_pure rfl) (by decide) ?_;have hb:∀i<kz.length,∀j<kz.length,ltB (xi kz) i j=fx (kz.getD i default) (kz.getD j default):=λi hi j hj=>Yr ya (ao (bM jG) h4) hi hj;obtain⟨S1,S2,S3⟩:=Yq (n:=vs.length) (b:=xi kz) yk h4 rfl λi hi j hj k jj=>by
   rw[hb i (jG▸hi) j (jG▸hj),hb j (jG▸hj) k (jG▸jj),hb i (jG▸hi) k (jG▸jj)];exact zE
  refine Nr (lt:=ltB (xi kz)) (λi j C hi hj hC=> ?_) S1 ?_
  ·rw[hb i (jG▸hi) j (jG▸hj)]at hC;exact adv (fJ.getD hi) (fJ.getD hj) hC
  ·refine KasFin.intro F1 N1 (.head λp hp=>by simpa using(ib.mp hp).2) λh' c F' N'=>⟨_,rfl,?_⟩;refine h h' c _ F' (AJ h' F' _ N') (N' _ mM).1 ⟨_,S2,rfl,?_⟩;refine Lz (jG▸S2) ?_;refine S3.imp_of_mem λ{i j} hi hj q=> ?_;rw[←hb i (jG▸gW.mp (S2.mem_iff.mp hi)) j (jG▸gW.mp (S2.mem_iff.mp hj))];exact q
end
noncomputable def xP:PV→Option Int
 | .int a=>some a
 |_=>none
theorem Af{p:PV}{a:Int}(e:xP p=some a):p= .int a:=by
 cases p with
 |int=>exact bV PV.int (c8 e)
 |_=>exact aQ e
noncomputable def Qo:PV→Option String
 | .str a=>some a
 |_=>none
theorem aaN{p:PV}{a:String}(e:Qo p=some a):p= .str a:=by
 cases p with
 |str=>exact bV PV.str (c8 e)
 |_=>exact aQ e
def ae0:List PV→Option K3
 | [p,q,r]=>(xP p).bind λa=>(Qo q).bind λx=>(xP r).bind λb=>some (a,x,b)
 |_=>none
def keyOf(p:PV):Option K3:=(xM p).bind ae0
noncomputable def keysOf:List PV→Option (List K3)
 | []=>some []
 |p::ps=>(keyOf p).bind λk=>(keysOf ps).bind λks=>some (k::ks)
noncomputable def AK(σ:ah)(p:PV):Option (List PV):=match dp σ p with
 | .tup l=>some l
 | .lst l=>some l
 |_=>none
def sI(c:CE):CE:=λρ σ=>(c ρ σ).bind λr=>(AK r.2 r.1).bind λl=>(keysOf l).bind λks=>if ks.length≤4 then some (.lst ((iQ ks).map K3.pv),r.2)else none
theorem DU{p:PV}{k:K3}(e:keyOf p=some k):p=k.pv:=by
 refine c4 e λl e1 e=>(Ac e1).trans ?_;cases l with
 |nil=>exact aQ e
 |cons p l=>cases l with
  |nil=>exact aQ e
  |cons q l=>cases l with
   |nil=>exact aQ e
   |cons r l=>cases l with
    |nil=>exact c4 e λa e1 e=>c4 e λx e2 e=>c4 e λb e3 e=>by rw[Af e1,aaN e2,Af e3,←c8 e];rfl
    |cons=>exact aQ e
theorem L6:∀{l:List PV} {ks:List K3},keysOf l=some ks→l=ks.map K3.pv
 | [],ks,e=>by cases e;rfl
 |p::ps,ks,e=>by
  refine c4 e λk e1 e=> ?_;refine c4 e λd5 e2 e=> ?_;(refine cj e λaL=> ?_;clear e;subst aL);rw[DU e1,L6 e2];rfl
variable{p1 tH:Pos}
section
variable{ae:bw}{w:br}{ag:aF}{K:Frag}{n:Nat}{aa:Env}
theorem iU.uR{h:aF}{k:K3}{ks:List K3}:iU ae w h (v::vs) (k::ks)↔d6 ae w h k v∧iU ae w h vs ks:=by
 constructor
 ·rintro⟨a,b⟩;exact⟨b 0 k v rfl rfl,by simpa using a,λi k v e1 e2=>b (i+1) k v (by simpa using e1) (by simpa using e2)⟩
 ·rintro⟨x,a,b⟩;refine⟨by simp[a],λi k' v' e1 e2=> ?_⟩;cases i with
  |zero=>simp at e1 e2;subst e1;subst e2;exact x
  |succ i=>exact b i k' v' (by simpa using e1) (by simpa using e2)
theorem iU.perm{h:aF}{l l':List au}(p:l.Perm l'):∀{ks:List K3},iU ae w h l' ks→∃kz:List K3,kz.Perm ks∧iU ae w h l kz:=by
 induction p with
 |nil=>exact λX=>⟨_,.refl _,X⟩
 |cons x p ih=>
  intro ks X;cases ks with
  |nil=>have:=X.1;simp at this
  |cons k ks=>
   refine cM (iU.uR.mp X) λa b=> ?_;refine aT (ih b) λkz c d=> ?_;exact⟨k::kz,c.cons k,iU.uR.mpr ⟨a,d⟩⟩
 |swap x y l=>
  intro ks X
  match ks,X with
  | [],X=>have:=X.1;simp at this
  | [_],X=>have:=X.1;simp at this
  |a::b::ks,X=>
   refine cM (iU.uR.mp X) λc d=> ?_;refine cM (iU.uR.mp d) λd e=> ?_;exact⟨b::a::ks,.swap ..,iU.uR.mpr ⟨d,iU.uR.mpr ⟨c,e⟩⟩⟩
 |trans _ _ ih1 ih2=>
  intro ks X;refine aT (ih2 X) λkz a b=> ?_;refine aT (ih1 b) λky c d=> ?_;exact⟨ky,c.trans a,d⟩
theorem Ys{h:aF}{a:aI}{ks:List K3}{es:Array (Int×au)}{ep:Nat}{plain led:Bool}{pl:List Nat}(X:f7 ae w h a led ks es ep plain pl):iU ae w h (es.toList.map (·.2)) ks:=by
 refine⟨(X.pY.trans X.kT.symm).trans (by simp),λi k v e1 e2=> ?_⟩;refine aT (X.item i k e1) λu e3 e4=> ?_;rw[eM,gI,e3]at e2;(refine cj e2 λaL=> ?_;clear e2;subst aL);exact e4
theorem ML{h:aF}{α:Al}:∀{vs:List au} {ks:List K3},a7 h α vs (ks.map K3.pv)→∀(i:Nat) v,vs[i]? =some v→d6 ae w h (ks.getD i default) v
 |_,[],r,i,v,e=>by cases r;simp at e
 |_,k::ks,r,i,v,e=>by
  cases r with
  |cons r1 r2=>
   cases i with
   |zero=>simp at e;subst e;exact aaD r1
   |succ i=>exact ML r2 i v (by simpa using e)
theorem mem_keys{ks:List K3}{z:K3}:z∈ks↔∃j<ks.length,ks.getD j default=z:=by
 constructor
 ·intro h;obtain⟨i,hi,rfl⟩:=List.getElem_of_mem h;exact⟨i,hi,by rw[eX,cF hi];rfl⟩
 ·rintro⟨j,hj,rfl⟩;rw[eX,cF hj];exact mN hj
set_option tactic.hygienic true in
theorem VL{A:bO}{s:aE}{α:Al}{p:PV}{l:List PV}{ks:List K3}{E:au→aE→Prop}(ho:fc n A)(T:RS ae w ag s.heap α σ)(V:RV s.heap α v p)(e1:AK σ p=some l)(e2:keysOf l=some ks)(h4:ks.length≤4)
 (q:∀h' tk a kz,(∀b o,s.heap.get? b=some o→h'.get? b=some o)→s.heap.get? a=none→pF ae w h' a kz→(∀z,z∈kz↔z∈ks)→Q (.ref a) {s with heap:=h',toks:=tk}):aY (ba ae w) A (call (.type "set") [v]) Q E s:=by
 refine cM (WL (m:=⟨s.heap,(s.toks,s.drawn),α⟩) T V) λd1 d2=> ?_;have el:=L6 e2;clear e2;subst el;have fin:∀{o:Obj} {items:Array au} {a:aI},Src ae w a o items→s.heap.get? a=some o→a7 s.heap α items.toList (ks.map K3.pv)→aY (ba ae w) A (call (.type "set") [.ref a]) Q E s:=by
  intro o items a C qD r;have d8:items.size=ks.length:=by rw[←gw,r.length,bB]
  refine Xb (key:=λi=>ks.getD i default) C ho.1 ho.AE qD (ao (bM d8) h4) (λi v e=>ML r i v (by rw[gI];exact e)) λh' tk kz X hm hk=> ?_;exact q h' tk _ kz hk (fR _) X λz=>by rw[hm z,mem_keys,d8]
 unfold AK at e1;split at e1
 ·rename_i l' hl;(refine cj e1 λaL=> ?_;clear e1;subst aL);(refine oy (d1 _ hl) λa vs m gR ht r=> ?_;clear V d1 d2;subst gR);exact fin src_tuple ht r
 ·rename_i l' hl;(refine cj e1 λaL=> ?_;clear e1;subst aL);(refine oy (d2 _ hl) λa vs m gR ht r=> ?_;clear V d1 d2;subst gR);exact fin src_list ht r
 ·exact aQ e1
theorem VM{h:aF}{α:Al}{ks:List K3}(h1:ks.length=vs.length)(h2:∀i v,vs[i]? =some v→RV h α v (ks.getD i default).pv):a7 h α vs (ks.map K3.pv):=by
 induction vs generalizing ks with
 |nil=>cases ks with|nil=>exact .nil|cons a b=>cases h1
 |cons v vs ih=>
  cases ks with
  |nil=>cases h1
  |cons k ks=>exact .cons (h2 0 v rfl) (ih (by simpa using h1) λi v e=>h2 (i+1) v (by simpa using e))
theorem d6.rv{h:aF}{α:Al}(T:RS ae w ag h α σ){k:K3}(x:d6 ae w h k v):RV h α v k.pv:=by
 (refine pK x λa vs m gR ok t i=> ?_;clear x;subst gR);have ae1:a∉own α:=λz=>by
  refine aT (nY.mp z) λp hp hq=> ?_;refine bG (Cv hp) λj hj=> ?_;refine bG (fe.mp hj) λjl u=> ?_;have r:=T.objs j p.1 p.2 _ hj (cF (T.len▸jl));generalize σ[j]'(T.len▸jl)=o at r;have hv3:vs.size=3:=by rw[←gw,←i.length];rfl
  have fin:∀o,h.get? a=some o→o.cls= .type "tuple"∧o.data= .seq vs m:=λo e=>by
   have:=t.symm.trans e;(refine cj this λaL=> ?_;clear this;clear e;subst aL);exact⟨rfl,rfl⟩
  cases o with
  |list l=>
   obtain⟨e,us,c,h1,_⟩:=r;have hq:a=p.1:=hq.elim id λz=>z.trans e;clear t z;subst hq;exact bP (Kt (fin _ h1).1) (by decide)
  |aU l=>
   obtain⟨⟨e,_⟩,kvs,⟨o,es,ep,h1,_,h2,_⟩,_⟩:=r;have hq:a=p.1:=hq.elim id λz=>z.trans e;clear t z;subst hq;have:=(fin _ h1).2;rw[h2]at this;cases this
  |cZ l=>
   obtain⟨⟨e,_⟩,kvs,⟨o,es,ep,h1,_,h2,_⟩,_⟩:=r;have hq:a=p.1:=hq.elim id λz=>z.trans e;clear t z;subst hq;have:=(fin _ h1).2;rw[h2]at this;cases this
  |inst C l=>
   obtain⟨_,h1,es,c,h2,_⟩:=r;rcases hq with e|e<;>subst e
   ·have:=(fin _ h1).2;cases this
   ·have:=(fin _ h2).2;cases this
  |c7=>
   obtain⟨e,x,y,h1⟩:=r;have hq:a=p.1:=hq.elim id λz=>z.trans e;clear z;subst hq;have:=(fin _ h1).2;clear i t fin;cases this;cases hv3
 refine .tup t ae1 ?_;obtain⟨k1,k2,k3⟩:=k;generalize vs.toList=l at i;obtain _| @⟨_,u1,_,_,p1,_| @⟨_,u2,_,_,p2,_| @⟨_,u3,_,_,p3,⟨⟩⟩⟩⟩:=i
 (refine bG (lN (show mU k1 u1=true from p1)) λt1 aM=> ?_;clear p1;subst aM);(refine bG (q7 (show rl (S k2) u2=true from p2)) λt2 aM=> ?_;clear p2;subst aM);(refine bG (lN (show mU k3 u3=true from p3)) λt3 aM=> ?_;clear p3;subst aM);exact .cons (.int _ _) (.cons (.str _ _ ok) (.cons (.int _ _) .nil))
theorem Wj{xQ:Pos}{e:a6}{c:CE}(G1:GV ae w ag aa (.Name (S "sorted") p1) (.builtin "sorted"))(G2:GV ae w ag aa (.Name (S "set") p2) (.type "set"))(hp:notStar e=true)(h:SE ae w ag n aa (eval e aa) c):
 SE ae w ag n aa (eval (.Call (.Name (S "sorted") p1) [.Call (.Name (S "set") p2) [e] [] tH] [] xQ) aa) (sI c):=by
 intro A s α ρ σ pv aq E Q ho R T ec q;refine cy ec λp bj e1 ec=> ?_;refine c4 ec λl e2 ec=> ?_;refine c4 ec λks e3 ec=> ?_;split at ec
 case isFalse=>exact aQ ec
 rename_i h4;(refine cM (Dp (c8 ec)) λaL aM=> ?_;subst aL;subst aM);have one:∀x:a6,notStar x=true→ [x].all notStar=true:=λx k=>by simp[k]
 refine Call_ (G1 A s E _ R.fn R.gl R.bu T.base (o6 (P:=λh=>∀b o,ag.get? b=some o→h.get? b=some o) (by rw[lO (one _ rfl)];rfl) oS (nV (one _ rfl) (sE (Call_ (G2 A s E _ R.fn R.gl R.bu T.base
  (o6 (P:=λh=>∀b o,ag.get? b=some o→h.get? b=some o) (by rw[lO (one _ hp)];rfl) oZ (nV (one _ hp) (sE (h A s α ρ σ p bj E _ ho R T e1 λv h' tk aD X T' V=>uY ⟨T'.base,?_⟩) (oR hp [] aa)))))) (oR rfl [] aa)))))
 refine VL ho T' V e2 e3 h4 λh2 qM a kz k2 ha Xs hm=>uY ⟨λb o e=>k2 b o (T'.base b o e),?_⟩;have R':=R.ext X;have v5:=Kp.of (L:=aa.locals) k2;have R2:=R'.ext (v5.ext aD);refine call_function_entry kind_sorted plain_sorted entry_sorted (args_sorted1 _) ?_;refine aB (m:=checkCount "sorted" 1 1 _) (a4 ?_);refine aB (VK (ho.1) Xs λh3 gS vs k3 hv=> ?_);(refine xF hv λes ep plain pl X3 oH=> ?_;clear hv);have ID:=Kp.of (L:=aa.locals) k3;refine aT (iU.perm oH (Ys X3)) λky IE lI=> ?_;have bJ:vs.length≤4:=by rw[←lI.1,IE.length_eq];exact ao (bM X3.pY) X3.Hp
 refine aB (wpAny_newList ?_ (by rw[qe];exact ao bJ (aK rfl)));have IF:=Kp.push aa.locals h3 {cls:= .type "list",data:= .seq vs.toArray};have T3:=(T'.kp v5 R'.dX R'.ns R'.L0).kp ID R2.dX R2.ns R2.L0;have R3:=R2.ext (ID.ext aD);refine bG ((R3.ext (IF.ext aD)).fr (T3.kp IF R3.dX R3.ns R3.L0)) λm F=> ?_;have h0:ag.get? h3.objs.size=none:=by
  cases g:ag.get? h3.objs.size with
  |none=>rfl
  |some o=>have:=T3.base _ o g;rw[fR]at this;exact aQ this
 have k4:iU ae w (h3.push {cls:= .type "list",data:= .seq vs.toArray}) vs ky:=⟨lI.1,λi k v e1 e2=>(lI.2 i k v e1 e2).at λa o y g=>cR _ (k3 a o g)⟩;refine aB (fA (aaM (s:={s with heap:=h3.push {cls:= .type "list",data:= .seq vs.toArray},toks:=gS.1,drawn:=gS.2}) F (D:=h3.objs.size) (kz:=ky) (n:=0) (fP _ rfl) (lT R3.ns) h0 k4 (IE.nodup_iff.mpr X3.nodup) bJ λh5 c out F5 k5 hD5 Bh=> ?_));(refine cY Bh λpp uc BR vY=> ?_;clear Bh);have kk:∀a o,h3.get? a=some o→a≠aa.locals→h5.get? a=some o:=λa o e na=>k5 a o (cR _ e) (gK (dy e)) na;have So:Kp aa.locals h3 h5:=⟨kk,λm' e=>by
  have z:(h3.push {cls:= .type "list",data:= .seq vs.toArray}).Ns aa.locals m':=IF.ns m' e;rw[z.eq_nsMap,←F.ns.eq_nsMap];exact F5.ns⟩
 have T5:=T3.kp So R3.dX R3.ns R3.L0;refine a4 ⟨_,rfl,q _ h5 (gS.1,gS.2) aD (((X.trans (v5.ext aD)).trans (ID.ext aD)).trans (So.ext aD)) T5 ?_⟩;rw[←(zF (xa _) (xa _) λz=>by rw[uQ,uQ,IE.mem_iff,hm z]:iQ ky=iQ ks),←vY];refine .lst hD5 (kf T3) ?_;rw[BR];refine VM (by simp) λi v e=> ?_;rw[eM]at e;cases g:pp[i]? with
 |none=>rw[g]at e;exact aQ e
 |some j=>
  rw[g]at e;(refine cj e λaL=> ?_;clear e;subst aL);have hh:d6 ae w h5 (ky.getD j default) (vs.getD j .none):=by
   refine pK (lI.getD (gW.mp (uc.mem_iff.mp (lM g)))) λb us z e1 e2 e3 e4=> ?_;exact⟨b,us,z,e1,e2,kk b _ (k3 b _ e3) (λz=>by clear e1;subst z;exact(sG R3.ns (k3 _ _ e3):False)),e4⟩
  have:=hh.rv T5;rw[eX,eM,g];exact this
end
noncomputable def intOf?:PV→Option Int
 | .int i=>some i
 |_=>none
noncomputable def intsOf?:List PV→Option (List Int)
 | []=>some []
 |p::ps=>(intOf? p).bind λi=>(intsOf? ps).bind λis=>some (i::is)
theorem LA:∀{l:List PV} {is:List Int},intsOf? l=some is→l=is.map PV.int
 | [],ks,e=>by cases e;rfl
 |p::ps,ks,e=>by
  refine c4 e λk e1 e=> ?_;refine c4 e λd5 e2 e=> ?_;(first|exact aQ e|exact dA e|exact cL e|exact pL e|(refine cj e λaL=> ?_;clear e;subst aL));cases p<;>(first|exact aQ e1|exact dA e1|exact cL e1|exact pL e1|(refine cj e1 λaL=> ?_;clear e1;subst aL));rw[LA e2];rfl
theorem MM{h:aF}{α:Al}:∀{vs:List au} {is:List Int},a7 h α vs (is.map PV.int)→IntsAre vs is
 |_,[],r=>by cases r;exact .nil
 |_,i::is,r=>by
  cases r with
  |cons r1 r2=>(first|exact aQ r1|exact dA r1|exact cL r1|exact pL r1|(refine RV.iI r1 λz aL=> ?_;clear r1;subst aL));exact .cons _ _ (MM r2)
def Ag(c:CE):CE:=λρ σ=>(c ρ σ).bind λr=>match r.1 with
 | .tup l=>(intsOf? l).bind λis=>if is.length≤100 then some (.int (firstMet (λi=>is.getD i 0) is.length).length,r.2)else none
 |_=>none
section
variable{ae:bw}{w:br}{A:bO}{E:au→aE→Prop}{s:aE}
set_option maxHeartbeats 3200000 in
theorem U6{l:aI}{ns:List Int}(hh:A.handled=none)(ho:s.heap.get? l=some {cls:= .type "tuple",data:= .seq items m})(hi:IntsAre items.toList ns)(hb:items.size+1<scanBound)
 (h:∀(h':aF) (tk:Nat),h'.SetOf (jP ae w) s.heap.objs.size (λk'=>(firstMet (λi=>ns.getD i 0) items.size).any (· ==k')) (firstMet (λi=>ns.getD i 0) items.size).length→
  (∀b o,s.heap.get? b=some o→h'.get? b=some o)→Q (.ref s.heap.objs.size) {s with heap:=h',toks:=tk}):
 aY (ba ae w) A (call (.type "set") [.ref l]) Q E s:=by
 refine P5 ((src_tuple (ae:=ae) (w:=w) (l:=l) (items:=items) (n:=m)).go) λT oI St xN aeU aeV fH hit W Hs cC=> ?_;refine gM kI.mro λc tl aeW=> ?_;have adt:=kI.made;have jW:=kI.sub;refine sC (CX ?_);show aY _ _ (callAny (.type "set") _) _ _ _;refine a4 ⟨Code.quiet_builtin _ (by decide+kernel),sj F.entry_type_call ?_⟩;rw[Around.under_plain (weight_type_call_type "set" [.ref l] []) rfl];have h1:=kI.notType;have h2:=kI.canCreate;have hct:=F.typeCall_set_1 (.ref l)
 repeat (any_goals (first|assumption|wp_step))
 refine sr (code_set_new_1 (.ref l) (E:=E) (Q₁:=λobj cV=>∃led:Bool,obj= .ref s.heap.objs.size∧cV={s with heap:=s.heap.push {cls:= .type "set",dict:=none,data:= .set #[] 0 (.fresh 0 0 led)}}) λled=>⟨led,rfl,rfl⟩) λr cV hr=> ?_;cases r with
 |error e=>exact hr
 |ok fl=>
  cases fl with
  |ret obj=>
   (refine aT hr λled eG gR=> ?_;clear hr;subst eG;subst gR);have hS:(s.heap.push {cls:= .type "set",dict:=none,data:= .set #[] 0 (.fresh 0 0 led)}).get? s.heap.objs.size=some {cls:= .type "set",dict:=none,data:= .set #[] 0 (.fresh 0 0 led)}:=fP _ rfl;have hT:wG {s with heap:=s.heap.push {cls:= .type "set",dict:=none,data:= .set #[] 0 (.fresh 0 0 led)}} (.ref s.heap.objs.size) "set":=⟨_,hS,rfl⟩;have hli:=kI.init.lookup;have hbi:=kI.init.bind (.ref s.heap.objs.size)
   repeat (any_goals (first|assumption|wp_step))
   refine sr (yB (R:=wants (λr fF=>r= .none∧∃h' tk,fF={s with heap:=h',toks:=tk}∧
    h'.SetOf (jP ae w) s.heap.objs.size (λk'=>(firstMet (λi=>ns.getD i 0) items.size).any (· ==k')) (firstMet (λi=>ns.getD i 0) items.size).length∧
    (∀b o,s.heap.get? b=some o→h'.get? b=some o)) E) kI.init.plain F.entry_set_init (check_set_init_1 hT ?_)) λlx fF tn=> ?_
   ·have i3:(s.heap.push {cls:= .type "set",dict:=none,data:= .set #[] 0 (.fresh 0 0 led)}).get? l=some {cls:= .type "tuple",data:= .seq items m}:=cR _ ho;have hTl:wG {s with heap:=s.heap.push {cls:= .type "set",dict:=none,data:= .set #[] 0 (.fresh 0 0 led)}} (.ref l) T:=⟨_,i3,xN⟩;have yd:l<s.heap.objs.size:=dy ho;unfold Ub noKeywords TN;generalize Iw:ng=PI
    wp_walk
    subst Iw;refine hit _ _ _ _ i3 ?_;refine aB (wpAny_runValue ?_);have Ht:l≠(s.heap.push {cls:= .type "set",dict:=none,data:= .set #[] 0 (.fresh 0 0 led)}).objs.size:=by
     rw[gY];exact gK (rd yd)
    have Iy:A.in1.in1.in1.handled=none:=by simp[hh]
    have qP:s.heap.objs.size∉ [(s.heap.push {cls:= .type "set",dict:=none,data:= .set #[] 0 (.fresh 0 0 led)}).objs.size,l]:=by
     rw[gY];simp only[cG,ff,fg,not_or];exact⟨gK (qb _),nU yd⟩
    have Bi:∀(i:Nat) (v:au),items[i]? =some v→∃t,v= .int ((λi=>ns.getD i 0) i) t:=λi v hv=>IntsAre.int_at hi i v (by rw[gI];exact hv);refine codeAny_set_update_loopS (W _ _ Iy Ht).toS s.heap.objs.size qP (λi=>ns.getD i 0) Bi hb (items.size-0) 0 _ (by exact k7 (cH _) (cH _)) (eH _) (Hs _ i3)
     (SetOf_congr ((setObjOf_fresh (knd:=jP ae w) led).setOf (cR _ hS) (by unfold scanBound;exact aK rfl)) (λz=>rfl) rfl) λs' hm mq=> ?_
    obtain⟨h',g',d',c6,ye⟩:=s';have eg:g'=s.gens:=hm.gens;have ed:d'=s.drawn:=hm.drawn;have eo:ye=s.os:=hm.os;subst eg;subst ed;subst eo;show aY _ _ _ _ _ _;refine a4 ?_;show aY _ _ (ret lh) _ _ _;refine a4 ⟨rfl,h',c6,rfl,mq,λb o e=> ?_⟩;have hb:=dy e;refine hm.heap b o ?_ (cR _ (cR _ e));rw[gY];simp only[cG,ff,fg,not_or];exact⟨gK hb,gK (rd hb)⟩
   ·cases lx with
    |error e=>exact tn
    |ok EY=>
     cases EY with
     |ret r=>
      obtain⟨rfl,h',tk,rfl,mq,jj⟩:=tn
      repeat (any_goals (first|assumption|wp_step))
      exact h _ _ mq jj
     |_=>exact tn.elim
  |_=>exact hr.elim
end
section
variable{ae:bw}{w:br}{ag:aF}{K:Frag}{n:Nat}{aa:Env}
set_option tactic.hygienic true in
theorem Xf{xQ:Pos}{e:a6}{c:CE}(G1:GV ae w ag aa (.Name (S "len") p1) (.builtin "len"))(G2:GV ae w ag aa (.Name (S "set") p2) (.type "set"))(hp:notStar e=true)(h:SE ae w ag n aa (eval e aa) c):
 SE ae w ag n aa (eval (.Call (.Name (S "len") p1) [.Call (.Name (S "set") p2) [e] [] tH] [] xQ) aa) (Ag c):=by
 intro A s α ρ σ pv aq E Q ho R T ec q;refine cy ec λp bj e1 ec=> ?_;dsimp only at ec;split at ec
 case h_2=>exact aQ ec
 rename_i l;refine c4 ec λis e3 ec=> ?_;split at ec
 case isFalse=>exact aQ ec
 rename_i h4;have ec:=c8 ec;(refine cM (Dp ec) λaL aM=> ?_;subst aL;subst aM);have el:=LA e3;clear e3 ec;subst el;have one:∀x:a6,notStar x=true→ [x].all notStar=true:=λx k=>by simp[k]
 refine Call_ (G1 A s E _ R.fn R.gl R.bu T.base (o6 (P:=λh=>∀b o,ag.get? b=some o→h.get? b=some o) (by rw[lO (one _ rfl)];rfl) oS (nV (one _ rfl) (sE (Call_ (G2 A s E _ R.fn R.gl R.bu T.base
  (o6 (P:=λh=>∀b o,ag.get? b=some o→h.get? b=some o) (by rw[lO (one _ hp)];rfl) oZ (nV (one _ hp) (sE (h A s α ρ σ _ bj E _ ho R T e1 λv h' tk aD X T' V=>uY ⟨T'.base,?_⟩) (oR hp [] aa)))))) (oR rfl [] aa)))))
 cases V with
 |tup ht hn r=>
 rename_i a vs m;have hl:vs.size=is.length:=by rw[←gw,r.length,bB]
 refine U6 (m:=m) ho.1 ht (MM r) (by rw[hl];unfold scanBound;exact ao (bH h4 2) (aK rfl)) λh2 qM Xs k2=>uY ⟨λb o e=>k2 b o (T'.base b o e),?_⟩;rw[hl]at Xs;obtain⟨o,qD,hex,es,ep,t,hd,_,_,qR,hf⟩:=Xs.objOf;have R':=R.ext X;have v5:=Kp.of (L:=aa.locals) k2;have hle:=firstMet_length_le (λi=>is.getD i 0) is.length;refine call_len_set qD hex hd hf (by rw[qR];exact i9 (oY (jJ.mpr hle) (jJ.mpr h4)) (by decide)) ?_;rw[qR];exact q _ h2 (_,_) aD (X.trans (v5.ext aD)) (T'.kp v5 R'.dX R'.ns R'.L0) (.int _ _)
end
theorem UU:zD (.type "list") (lg "keys")=pure none:=by rw[uz,uq];kernel_rfl
theorem U7:zD (.type "zip") (lg "keys")=pure none:=by rw[uz,uq];kernel_rfl
theorem VN:zD (.type "zip") "__getattr__"=pure none:=by rw[uz,uq];kernel_rfl
theorem Vh:entryFor table "zip.__getattribute__"=some Jh:=
 entryFor_alias (id':="object.__getattribute__") (by kernel_rfl) (by first|rfl|decide+kernel) (by decide+kernel) (by kernel_rfl)
theorem UW(a:aI)(xs:Array au)(sl:Array (Option au))(name:Str)(u:Tok)(afE:zD (.type "zip") name=pure none)(adw:(["__module__","__name__","__qualname__","__doc__","__annotations__"]:List Str).contains name=false)(d8:name.length+100≤sM):
 Meets (Jh ⟨[.ref a,.str name u],[]⟩) (λA R s=>s.heap.get? a=some {cls:= .type "zip",dict:=none,data:= .fields xs,slots:=sl}∧raisesAttr (.ref a) name A R s):=
 Meets.of_wp λae w A R s hs=>by
  obtain⟨hp,g,d,tk,os⟩:=s;refine cM hs λhx hs=> ?_;have hT:(⟨hp,g,d,tk,os⟩:aE).TypeIs (.ref a) "zip":=⟨_,hx,rfl⟩;unfold Jh
  repeat (any_goals (first|assumption|wp_step))
  rw[aS (Bool.eq_false_iff.mp adw)]
  repeat (any_goals (first|assumption|wp_step))
  exact wpAny_raiseAttrError hs.1 hs.2 (attrMsg_fits (by decide+kernel) d8)
section
variable{ae:bw}{w:br}{A:bO}{E:au→aE→Prop}{s:aE}
theorem Xg{a:aI}{Q:Option au→aE→Prop}(hx:s.heap.get? a=some {cls:= .type "list",dict:=none,data:= .seq xs k,slots:= #[]})(hA:A.handled=none)
 (h:∀h' tk,(∀b o,s.heap.get? b=some o→h'.get? b=some o)→Q none {s with heap:=h',toks:=tk}):aY (ba ae w) A (getAttr? (.ref a) "keys") Q E s:=by
 obtain⟨hp,g,d,tk,os⟩:=s;have hT:∀c6,(⟨hp,g,d,c6,os⟩:aE).TypeIs (.ref a) "list":=λz=>⟨_,hx,rfl⟩;have f1:=sub_AttributeError;have f3:=Jp.lookup;have f4:=Jp.bind (.ref a);have f5:=am_list_getattr_none;unfold getAttr? getAttrBy? getAttrBy
 repeat (any_goals (first|assumption|exact hT _|((with_reducible show aY _ _ (call (uC "list.__getattribute__") _ _) _ _ _);refine zB Jp (hT _) am_entry_list_getattribute (F.args_list_getattribute_2 _ _) (meets_getattribute_miss_list a xs k #[] _ _ UU (by decide) (by decide)) ⟨hx,hA,λh' c6 e rX=> ?_⟩)|wp_step))
 refine gM rX.there λt' u' he=> ?_;show aY _ _ (CD _ _ _ _ _ _ _) _ _ _;unfold CD
 repeat (any_goals (first|assumption|wp_step))
 exact h _ _ rX.keeps
theorem Yt{a:aI}{Q:Option au→aE→Prop}(hx:s.heap.get? a=some {cls:= .type "zip",dict:=none,data:= .fields xs,slots:= #[]})(hA:A.handled=none)
 (h:∀h' tk,(∀b o,s.heap.get? b=some o→h'.get? b=some o)→Q none {s with heap:=h',toks:=tk}):aY (ba ae w) A (getAttr? (.ref a) "keys") Q E s:=by
 obtain⟨hp,g,d,tk,os⟩:=s;have hT:∀c6,(⟨hp,g,d,c6,os⟩:aE).TypeIs (.ref a) "zip":=λz=>⟨_,hx,rfl⟩;have f1:=sub_AttributeError;have f3:=Jw.lookup;have f4:=Jw.bind (.ref a);have f5:=VN;unfold getAttr? getAttrBy? getAttrBy
 repeat (any_goals (first|assumption|exact hT _|((with_reducible show aY _ _ (call (uC "zip.__getattribute__") _ _) _ _ _);refine zB Jw (hT _) Vh (F.args_zip_getattribute_2 _ _) (UW a xs #[] _ _ U7 (by decide) (by decide)) ⟨hx,hA,λh' c6 e rX=> ?_⟩)|wp_step))
 refine gM rX.there λt' u' he=> ?_;show aY _ _ (CD _ _ _ _ _ _ _) _ _ _;unfold CD
 repeat (any_goals (first|assumption|wp_step))
 exact h _ _ rX.keeps
end
abbrev Og(h:aF)(z TI TO T:aI)(b:Bool):Prop:=h.get? z=some {cls:= .type "zip",dict:=none,data:= .fields #[je T,.bool b,.bool false,.ref TI,.ref TO],slots:= #[]}
structure Zd.B(Z:Zd)(h:aF)(T:aI)(b:Bool)(k:Nat):Prop where
 z:Og h Z.z Z.TI Z.TO T b
 T:∃o,h.get? T=some o
 ti:km h Z.TI (.ref Z.i1) (.ref Z.i2)
 a:h.IsTupleIter Z.i1 Z.t1 k
 b:h.IsTupleIter Z.i2 Z.t2 k
section
variable{ae:bw}{w:br}{A:bO}{E:au→aE→Prop}{s:aE}
theorem Yu{Z:Zd}{T:aI}{ys:Array au}{Q:Option au→aE→Prop}(hh:A.handled=none)(D:Z.A){b:Bool}(S:Z.B s.heap T b k)(l1:s.heap.IsTuple Z.t1 xs)
 (l2:s.heap.IsTuple Z.t2 ys) (nT:T∉Z.wr) (hQ:∀x y h',xs[k]? =some x→ys[k]? =some y→Z.B h' T true (k+1)→km h' s.heap.objs.size x y→Kw Z.wr s.heap h'→Q (some (.ref s.heap.objs.size)) {s with heap:=h'})
 (hE:(xs[k]? =none∨ys[k]? =none)→∀h',Kw Z.wr s.heap h'→Q none {s with heap:=h'}):aY (ba ae w) A (ik (.ref Z.z)) Q E s:=by
 have Sq:s.TypeIs (.ref Z.z) "zip":=⟨_,S.z,rfl⟩;refine aB (wF (q5 (name:=lg "__next__") Sq CY
  (kY CY Sq F.entry_zip_next ?_ (F.args_zip_next_1 _))))
 refine aB (m:=field (.ref Z.z) 2) (mS S.z rfl (x:= .bool false) rfl ?_);refine aB (m:=field (.ref Z.z) 3) (mS S.z rfl (x:= .ref Z.TI) rfl ?_);refine aB (oU S.ti rfl ?_);refine aB (m:=TJ (.ref Z.z)) ?_;refine aB (mS S.z rfl (x:=je T) rfl ?_);refine S.T.elim λoT hT=> ?_;refine aB (m:=loadIfAlive T) (kdx_alive hT ?_);refine aB (mS S.z rfl (x:= .bool b) rfl ?_);refine fD (Q:=λa s'=>a=false∧∃g1,s'={s with heap:=g1}∧Og g1 Z.z Z.TI Z.TO T true∧uJ Z.z s.heap g1∧g1.objs.size=s.heap.objs.size) ?_ (λa s' h=> ?_) λu u x=>x
 ·cases b with
  |true=>exact a4 ⟨rfl,_,rfl,S.z,λu u u e=>e,rfl⟩
  |false=>exact aB (oP S.z (by simp) λg1 z1 e1=>a4 ⟨rfl,g1,rfl,z1,e1.extBut,e1.1⟩)
 refine h.2.elim λg1 h'=> ?_;rw[h.1,h'.1];refine pJ h'.2 λz1 e1 sz1=> ?_;have K1:Kw Z.wr s.heap g1:=Kw.by (λu u e u=>e) e1 (.head _);refine kG (λz=>cL z) λu=> ?_;show aY _ _ (forIn #[bD Z.i1,bD Z.i2] _ _>>=_) _ _ _;rw[←JX];show aY _ _ (forIn (_::_) _ _>>=_) _ _ _;rw[wy];refine aB (aB (aB (fA ?_)));have stop:∀{g:aF} {e:aI},(xs[k]? =none∨ys[k]? =none)→Kw Z.wr s.heap g→(∃o,g.get? e=some o∧o.cls= .type "StopIteration")→aY (ba ae w) A (do if(←zA (.ref e) (.type "StopIteration"))then pure none else throw (.ref e)) Q E {s with heap:=g}:=λ{g e} Hk K he=>aT he λoe BK rT=>aB (yP (v:= .ref e) (T:="StopIteration") (b:=true) ⟨oe,BK,rT⟩ isSubtype_stop (a4 (hE Hk g K)));refine aB (m:=yz (.ref Z.i1)) (zp hh (S.a.extBut e1 D.az) (l1.at λo e=>K1 _ o e D.n1) (λx g2 hx j1 e2=>a4 (a4 ?_)) λhx g2 e e2 he=>stop (.inl hx) (K1.by e2 (.tail _ (.tail _ (.head _)))) he);have K2:=K1.by e2.extBut (.tail _ (.tail _ (.head _)));dsimp only;rw[wy];refine aB (aB (fA ?_));refine aB (m:=yz (.ref Z.i2)) (zp hh ((S.b.extBut e1 D.bz).extBut e2.extBut D.ab.symm) (l2.at λo e=>K2 _ o e D.n2) (λy g3 hy j2 e3=>a4 (a4 (a4 ?_))) λhy g3 e e3 he=>stop (.inr hy) (K2.by e3 (.tail _ (.tail _ (.tail _ (.head _))))) he);have sz:g3.objs.size=s.heap.objs.size:=e3.1.trans (e2.1.trans sz1);refine aB (m:=newTuple [x,y]) (wpAny_newTuple ?_ (by show 2≤_;decide));refine a4 ⟨_,rfl,a4 ?_⟩;have K3:Kw Z.wr s.heap (g3.push {cls:= .type "tuple",data:= .seq #[x,y]}):=λc o e n=>cR _ (K2.by e3.extBut (.tail _ (.tail _ (.tail _ (.head _)))) c o e n);exact sz▸hQ x y _ hx hy ⟨cR _ (e3.extBut _ _ D.bz.symm (e2.extBut _ _ D.az.symm z1)),⟨_,K3 _ _ hT nT⟩,K3 _ _ S.ti D.nT,(j1.extBut e3.extBut D.ab).at λo e=>cR _ e,j2.at λo e=>cR _ e⟩ (sz▸fP _ rfl) K3
theorem UL:entryFor table "dict.update.loop"=some afA:=entryFor_of_tree (by kernel_rfl)
theorem Kj:plainId "dict.update.loop"=true:=by decide+kernel
theorem zG{d:aI}{it:au}{i:Int}{R:Result→aE→Prop}
 (h:aY (ba ae w) A.in1 (ik it) (λr s'=>match r with
  |none=>R (.ok (.ret .none)) s'
  |some item=>∃a k v m,item= .ref a∧IsT s'.heap a #[k,v] m∧aY (ba ae w) A.in1 (dictSet d k v) (λz ub=>jQ (ba ae w) A (.builtin "dict.update.loop" ⟨[.ref d,it,je (i+1),.none],[]⟩) R ub) (λz z=>False) s') (λz z=>False) s):
 jQ (ba ae w) A (.builtin "dict.update.loop" ⟨[.ref d,it,je i,.none],[]⟩) R s:=by
 refine sj UL ?_;refine aB (fD h (λr s' hr=> ?_) λz z x=>x.elim);cases r with
 |none=>exact aB (a4 (a4 hr))
 |some item=>
  (refine Ba hr λa k v m yi ht hs=> ?_;clear hr;subst yi);refine aB (fA ?_);refine aB (wpAny_tryCatch ?_);refine aB (sq (T:="tuple") ⟨_,ht,rfl⟩ ?_);refine aB (oU ht rfl (a4 ?_));refine fA (fD hs (λz ub hq=> ?_) λz z x=>x.elim);exact a4 ⟨rk Kj _,hq⟩
theorem L7{src:aI}{T:String}(ho:s.heap.get? src=some o)(hc:o.cls= .type T)(hT:T≠"dict")(hA:A.handled=none)
 (adx:∀(A:bO) (E:au→aE→Prop) (s':aE) (Q:Option au→aE→Prop),s'.heap.get? src=some o→A.handled=none→(∀h' tk,(∀b o,s'.heap.get? b=some o→h'.get? b=some o)→Q none {s' with heap:=h',toks:=tk})→aY (ba ae w) A (getAttr? (.ref src) "keys") Q E s')
 (hgo:∀h' tk,(∀b o,s.heap.get? b=some o→h'.get? b=some o)→h'.DictOf (jP ae w) s.heap.objs.size []→
  aY (ba ae w) A.in1.in1 (ng (.ref src)) (λit s'=>jQ (ba ae w) A.in1 (.builtin "dict.update.loop" ⟨[.ref s.heap.objs.size,it,je 0,.none],[]⟩) (λr ub=>r= .ok (.ret .none)∧Q (.ref s.heap.objs.size) ub) s') (λz z=>False) {s with heap:=h',toks:=tk}):
 aY (ba ae w) A (call (.type "dict") [.ref src]) Q E s:=by
 refine callType_codes (Q₁:=λobj cV=>obj= .ref s.heap.objs.size∧cV={s with heap:=s.heap.push {cls:= .type "dict",data:= .dict #[]}}) F.kt_called_dict (F.kt_typeCall_dict_1 _) F.entry_dict_init (kt_code_dict_new _ ⟨rfl,rfl⟩) ?_;rintro obj cV ⟨rfl,rfl⟩;have tF:(s.heap.push {cls:= .type "dict",data:= .dict #[]}).DictOf (jP ae w) s.heap.objs.size []:=UQ s.heap;have i3:(s.heap.push {cls:= .type "dict",data:= .dict #[]}).get? src=some o:=cR _ ho;refine⟨tF.typeIs,F.args_dict_init_2 _ _,?_⟩;refine aB ?_;refine aB (wpAny_notOrdered_dict tF.typeIs ?_);refine a4 ?_;show aY _ _ (Builtin.Dict.updateFrom "dict.__init__" s.heap.objs.size (.ref src) [] .none) _ _ _;refine aB (sq (T:=T) ⟨_,i3,hc⟩ ?_);rw[aP (by simp[hT])];refine aB (adx _ _ _ _ i3 hA λh' tk k=> ?_);refine aB (rt ?_);refine aB (fD (hgo h' tk (λb o e=>k b o (cR _ e)) (tF.keep k)) (λit s' hq=> ?_) λz z x=>x.elim);refine a4 ⟨rk Kj _,sr hq λr ub hr=> ?_⟩;(refine cM hr λaL hq=> ?_;clear hr;subst aL);exact⟨rfl,hq⟩
end
section
set_option genSizeOfSpec false
set_option genInjectivity false
def ady:List PV→Option (Int×PV)
 | [x,p]=>(xP x).bind λa=>some (a,p)
 |_=>none
def pairOf(p:PV):Option (Int×PV):=(xM p).bind ady
noncomputable abbrev xt(q:Int×PV):PV:= .tup [.int q.1,q.2]
theorem Xh{p:PV}{k:Int×PV}(e:pairOf p=some k):p=xt k:=c4 e λl e1 e=>by
 cases l with
 |nil=>exact aQ e
 |cons x r=>
  cases r with
  |nil=>exact aQ e
  |cons p r=>
   cases r with
   |nil=>exact c4 e λa e2 e=>by rw[Ac e1,Af e2,←c8 e]
   |cons=>exact aQ e
noncomputable def Ez:List PV→Option (List (Int×PV))
 | []=>some []
 |p::ps=>(pairOf p).bind λk=>(Ez ps).bind λks=>some (k::ks)
def E1(l D:List (Int×PV)):List (Int×PV):=l.foldl (λd q=>put q.1 q.2 d) D
def Qp(l:List PV)(σ:ah):Option (PV×ah):=(Ez l).bind λps=>if ps.length≤1000 then some (.loc σ.length,σ++ [.aU (E1 ps [])])else none
def xu:List PV→ah→Option (PV×ah):=pW λp σ=>match p with
 | .lst l=>Qp l σ
 |_=>none
theorem L8:∀{l:List PV} {ps:List (Int×PV)},Ez l=some ps→l=ps.map xt:=by
 intro l
 induction l with
 |nil=>exact λe=>c8 e▸rfl
 |cons p l ih=>exact λe=>c4 e λk e1 e=>c4 e λks e2 e=>c8 e▸Xh e1▸ih e2▸rfl
section
variable{ae:bw}{w:br}{ag:aF}{K:Frag}{n:Nat}{aa:Env}{h g g':aF}{α:Al}{d:aI}{D:List (Int×PV)}
structure iw(ae:bw)(w:br)(h:aF)(α:Al)(g:aF)(d:aI)(D:List (Int×PV)):Prop where
 keep:∀b o,h.get? b=some o→g.get? b=some o
 there:∃kvs:List (Int×au),g.DictOf (jP ae w) d kvs∧kvs.map (·.1)=D.map (·.1)∧a7 h α (kvs.map (·.2)) (D.map (·.2))
 small:D.length≤2000
theorem Eg{K:Type} [DecidableEq K]{k:K}{v:PV}{l:List (K×PV)}:(put k v l).length≤l.length+1:=by
 unfold put;split
 ·rw[bB];exact rm _
 ·rw[oO];exact cH _
theorem iw.set{A:bO}{s:aE}{E:au→aE→Prop}{Q:Unit→aE→Prop}{k:au}{a:Int}{p:PV}(F:iw ae w h α s.heap d D)(hd:h.get? d=none)(hk:RV h α k (.int a))(V:RV h α v p)(hz:D.length<2000)
 (q:∀h' tk,iw ae w h α h' d (put a p D)→uF d s.heap h'→Q () {s with heap:=h',toks:=tk}):aY (ba ae w) A (dictSet d k v) Q E s:=cY F.there λkvs h1 h2 h3=>hk.eI λt=>
 wpAny_dictSet_pairs (knd:=jP ae w) (k:=a) (uM _ _ _ _) h1 (λh' qQ kE=>q h' _ ⟨λb o e=>(kE.2 b λz=>aQ (hd.symm.trans (z▸e))).trans (F.keep b o e),⟨_,qQ,Ms h2,Mt V h2 h3⟩,ao Eg hz⟩ kE)
  (by
   have:kvs.length=D.length:=by simpa using bV su h2
   rw[this];exact cQ (b:=1) (ao hz (aK rfl)))
theorem iw.move(F:iw ae w h α g d D)(k:∀b o,g.get? b=some o→(b=d∨∃o,h.get? b=some o)→g'.get? b=some o):iw ae w h α g' d D:=
 ⟨λb o e=>k b o (F.keep b o e) (.inr ⟨o,e⟩),F.there.imp λkvs e=>⟨e.1.at λo g=>k d o g (.inl rfl),e.2⟩,F.small⟩
theorem iw.made(iq:∃o,ag.get? jt=some o){c:Cx}{m:Me}{tk:TK}(H:Hy ae w ag n c m σ)(hd:m.h.get? d=none)(F:iw ae w m.h m.α g d D)(q:∀m' v,m.le c.L m'→RS ae w ag m'.h m'.α (σ++ [.aU D])→Vm m' v (.loc σ.length)→Q v (c.at m')):Q (.ref d) (c.at ⟨g,tk,m.α⟩):=cY F.there λkvs h1 h2 h3=>by
 have dL:d≠c.L:=λz=>H.ns.elim λmm N=>ku N λo y y g y=>aQ (hd.symm.trans (z▸g));have kp:Kp c.L m.h g:=Kp.of F.keep;have X:cp c.L m.h g m.α (m.α++ [(d,d)]):=rB kp hd hd dL dL;have hs:(g.get? d).isSome=true:=ku h1 λo es ep g y=>bV wA g;exact q ⟨g,tk,m.α++ [(d,d)]⟩ _ X (H.st.add kp hd hd dL dL H.low H.ns (pC H.size) hs hs ⟨⟨rfl,(kc.mpr λz=>iq.elim λo g=>aQ (hd.symm.trans (z▸H.st.base _ o g)))⟩,kvs,h1,h2,h3.ext X H.ns⟩) (.loc (b:=d) (by rw[←H.st.len,mJ (cH _),uG];rfl))
theorem iw.fin(iq:∃o,ag.get? jt=some o){c:Cx}{m:Me}(H:Hy ae w ag n c m σ)(hd:m.h.get? d=none)(h:∀Q:au→aE→Prop,(∀h' (tk:TK),iw ae w m.h m.α h' d D→Q (.ref d) (c.at ⟨h',tk,m.α⟩))→aY (ba ae w) c.A t Q c.E (c.at m)):bk ae w ag c m t (some (.loc σ.length,σ++ [.aU D])) Vm:=
 λr aq e Q q=>cw e λz1 z2=>h Q λh' tk F=>F.made iq H hd (z1▸z2▸q)
theorem dict_list{A:bO}{R:Result→aE→Prop}(hh:A.handled=none){l:aI}{vs:Array au}{L:List PV}(r:a7 h α vs.toList L)(hl:IsL h l vs m)(hd:h.get? d=none)(hI:h.get? I=none)(Sr:d≠I):
 ∀(ps:List (Int×PV)) (i:Nat) (s:aE) (D:List (Int×PV)),ps.map xt=L.drop i→D.length+ps.length≤1500→iw ae w h α s.heap d D→s.heap.IsListIter I l i→
  (∀h' tk,iw ae w h α h' d (E1 ps D)→R (.ok (.ret .none)) {s with heap:=h',toks:=tk})→jQ (ba ae w) A (.builtin "dict.update.loop" ⟨[.ref d,.ref I,je i,.none],[]⟩) R s:=by
 have mv:∀{g g':aF} {D},uJ I g g'→iw ae w h α g d D→iw ae w h α g' d D:=λk F=>F.move λb o e q=>k b o (λz=>q.elim (λq=>Sr (q▸z)) λq=>q.elim λo q=>aQ (hI.symm.trans (z▸q))) e;intro ps
 induction ps with
 |nil=>exact λi s D e hz F it q=>zG (wpAny_pyNext_list_end hh it (items:=vs) ⟨_,F.keep _ _ hl,rfl,m,rfl⟩ (uo (r.size▸drop_nil e)) λh' he=>q h' s.toks (mv he F))
 |cons x ps ih=>
  refine λi s D e hz F it q=>have e:=drop_cons e;aT (r.get e.1) λv ev V=> ?_;have H9:D.length+ps.length<1500:=hz;refine zG (wpAny_pyNext_list_item it (items:=vs) ⟨_,F.keep _ _ hl,rfl,m,rfl⟩ (gI.symm.trans ev) λh' x6 Ia=>V.iT λt us m' z ht y r=>r.i2 λk u eu Vk Vu=> ?_);have F':=mv Ia.extBut F;exact⟨t,k,u,m',z,(bV KV eu:us= #[k,u])▸F'.keep _ _ ht,F'.set (s:={s with heap:=h'}) hd Vk Vu (ao (ao (bH (bR _ _) 1) hz) (aK rfl)) λh2 tk F2 kE=>ih (i+1) _ _ e.2 (by have:=Eg (k:=x.1) (v:=x.2) (l:=D);lia) F2 (x6.at λo e=>(kE.2 I λz=>Sr z.symm).trans e) q⟩
theorem aaO(iq:∃o,ag.get? jt=some o):eh ae w ag n (.type "dict") xu:= .vQ λc m σ v p H V=>by
 cases p with
 |lst l=>
  exact bk.pb λps e1=>bk.if1 λhz=>iw.fin iq H (fR _) λQ q=>V.iL λt us k zv ht hn r=>zv▸L7 ht rfl (by decide) H.room.1 (λA E s' Q g hA k=>Xg g hA k) λh1 tk k1 rZ=>CH (items:=us) ⟨_,k1 _ _ ht,rfl,k,rfl⟩
   (dict_list (A:=c.A.in1) H.room.1 r ht (fR _) (yy.mpr λo g=>aQ ((fR _).symm.trans (k1 _ o g))) (ku rZ λo es ep g z=>gK (dy g)) ps 0 _ [] (L8 e1).symm (by rw[nR];lia) ⟨λb o e=>cR _ (k1 b o e),⟨[],rZ.push _,rfl,.nil⟩,eH _⟩ ⟨_,fP _ rfl,rfl,rfl⟩ λh' c6 F=>⟨rfl,q h' (c6,m.tk.2) F⟩)
 |_=>exact bk.no
end
end
section
set_option genSizeOfSpec false
set_option genInjectivity false
def zT(c1 c2:CE):CE:=λρ σ=>(eA [c1,c2] ρ σ).bind λr=>(Hl r.1).bind λl=>Qp l r.2
section
variable{ae:bw}{w:br}{ag:aF}{K:Frag}{n:Nat}{aa:Env}{H g g':aF}{α:Al}{d T:aI}{D:List (Int×PV)}{Z:Zd}{a b:List PV}
structure BV(H:aF)(α:Al)(d:aI)(Z:Zd)(a b:List PV):Prop where
 A:Z.A
 x:RV H α (.ref Z.t1) (.tup a)
 y:RV H α (.ref Z.t2) (.tup b)
 hn:∀c∈Z.wr,H.get? c=none
 hd:H.get? d=none
 nd:d∉Z.wr
 dT:d≠Z.TI
theorem iw.kw(I:BV H α d Z a b)(F:iw ae w H α g d D)(K:Kw Z.wr g g'):iw ae w H α g' d D:=
 F.move λb o e q=>K b o e λm=>q.elim (λq=>I.nd (q▸m)) λq=>q.elim λo q=>aQ ((I.hn b m).symm.trans q)
def Zd.C(Z:Zd)(d:aI)(h:aF)(k:Nat):Prop:=Z.S h .none k∨∃T b,Z.B h T b k∧T∉Z.wr∧d≠T
theorem Zd.C.upd(C:Z.C d g k)(I:BV H α d Z a b)(e:uJ d g g'):Z.C d g' k:=by
 have u:=λc m o=>e c o ((λc m=>(ly (P:=λc=>c≠d) (λz=>I.nd (z▸ .head _)) (λz=>I.nd (z▸ .tail _ (.head _))) (λz=>I.nd (z▸ .tail _ (.tail _ (.head _)))) (λz=>I.nd (z▸ .tail _ (.tail _ (.tail _ (.head _))))):∀c∈Z.wr,c≠d) c m) c m);have uT:=λo=>e Z.TI o I.dT.symm;cases C with
 |inl S=>exact .inl ⟨u _ (.head _) _ S.z,uT _ S.ti,gM S.to λx y p=>⟨x,y,u _ (.tail _ (.head _)) _ p⟩,S.a.at (u _ (.tail _ (.tail _ (.head _)))),S.b.at (u _ (.tail _ (.tail _ (.tail _ (.head _)))))⟩
 |inr h=>exact tx h λT b S n1 n2=> .inr ⟨T,b,⟨u _ (.head _) _ S.z,S.T.imp λo g=>e _ _ n2.symm g,uT _ S.ti,S.a.at (u _ (.tail _ (.tail _ (.head _)))),S.b.at (u _ (.tail _ (.tail _ (.tail _ (.head _)))))⟩,n1,n2⟩
theorem Nx{A:bO}{E:au→aE→Prop}{s:aE}{ys:Array au}{Q:Option au→aE→Prop}(hh:A.handled=none)(D:Z.A)(C:Z.C d s.heap k)(ld:d<s.heap.objs.size)(l1:s.heap.IsTuple Z.t1 xs)(l2:s.heap.IsTuple Z.t2 ys)
 (hQ:∀x y h',xs[k]? =some x→ys[k]? =some y→Z.C d h' (k+1)→km h' s.heap.objs.size x y→Kw Z.wr s.heap h'→Q (some (.ref s.heap.objs.size)) {s with heap:=h'})
 (hE:(xs[k]? =none∨ys[k]? =none)→∀h',Kw Z.wr s.heap h'→Q none {s with heap:=h'}):aY (ba ae w) A (ik (.ref Z.z)) Q E s:=by
 cases C with
 |inl S=>exact Ni hh D S l1 l2 (λx y h' e1 e2 S' P=>hQ x y h' e1 e2 (.inr ⟨_,false,⟨S'.z,⟨_,P⟩,S'.ti,S'.a,S'.b⟩,λm=>ly (P:=λc=>s.heap.objs.size≠c) (nU (dy S.z)) (gM S.to λv v p=>nU (dy p)) (S.a.elim λo g=>nU (dy g.1)) (S.b.elim λo g=>nU (dy g.1)) _ m rfl,gK ld⟩) P) λe h' K v=>hE e h' K
 |inr h=>exact tx h λT b S n1 n2=>Yu hh D S l1 l2 n1 (λx y h' e1 e2 S'=>hQ x y h' e1 e2 (.inr ⟨T,true,S',n1,n2⟩)) hE
theorem acA{lG lH:Array au}(r1:a7 H α lG.toList a)(r2:a7 H α lH.toList b){x y:au}{q:Int×PV}(e1:lG[k]? =some x)(e2:lH[k]? =some y)(e:(qB a b)[k]? =some (xt q)):RV H α x (.int q.1)∧RV H α y q.2:=
 aT (r1.get' (gI.trans e1)) λp ep V=>aT (r2.get' (gI.trans e2)) λu eu U=>
  have z:=nS (PV.tup.inj (c8 ((DP ep eu).symm.trans e)))
  ⟨z.1▸V,(nS z.2).1▸U⟩
theorem Yv{A:bO}{R:Result→aE→Prop}(hh:A.handled=none)(I:BV H α d Z a b):∀(ps:List (Int×PV)) (k:Nat) (s:aE) (D:List (Int×PV)),ps.map xt=(qB a b).drop k→D.length+ps.length≤1500→iw ae w H α s.heap d D→Z.C d s.heap k→
 (∀h' tk,iw ae w H α h' d (E1 ps D)→R (.ok (.ret .none)) {s with heap:=h',toks:=tk})→jQ (ba ae w) A (.builtin "dict.update.loop" ⟨[.ref d,.ref Z.z,je k,.none],[]⟩) R s:=
 I.x.iT λt1 lG m1 z1 oF t r1=>I.y.iT λt2 lH m2 z2 gG t r2=>by
 have L1:∀{g:aF},(∀b o,H.get? b=some o→g.get? b=some o)→g.IsTuple Z.t1 lG:=λk=>qd z1▸⟨_,k _ _ oF,rfl,m1,rfl⟩;have L2:∀{g:aF},(∀b o,H.get? b=some o→g.get? b=some o)→g.IsTuple Z.t2 lH:=λk=>qd z2▸⟨_,k _ _ gG,rfl,m2,rfl⟩;have ld:∀{g:aF} {D},iw ae w H α g d D→d<g.objs.size:=λF=>cY F.there λkvs h t t=>ku h λo es ep g t=>dy g;intro ps
 induction ps with
 |nil=>exact λk s D e hz F C q=>zG (Nx hh I.A C (ld F) (L1 F.keep) (L2 F.keep) (λx y h' e1 e2=>aT (r1.get' (gI.trans e1)) λp ep t=>aT (r2.get' (gI.trans e2)) λu eu t=>aQ ((p7 (drop_nil e)).symm.trans (DP ep eu))) λt h' K=>q h' s.toks (F.kw I K))
 |cons p ps ih=>
  refine λk s D e hz F C q=>have e:=drop_cons e;have H9:D.length+ps.length<1500:=hz
   zG (Nx hh I.A C (ld F) (L1 F.keep) (L2 F.keep) (λx y h' e1 e2 C' P K=>have V:=acA r1 r2 e1 e2 e.1;⟨_,x,y,0,rfl,P,?_⟩) λh=>aQ ((Mz (h.imp r1.gn r2.gn)).symm.trans e.1))
  exact(F.kw I K).set (s:={s with heap:=h'}) I.hd V.1 V.2 (ao (ao (bH (bR _ _) 1) hz) (aK rfl)) λg tk F2 sb=>ih (k+1) _ _ e.2 (by have:=Eg (k:=p.1) (v:=p.2) (l:=D);lia) F2 (C'.upd I sb.extBut) q
theorem Wk(iq:∃o,ag.get? jt=some o){xQ:Pos}{c1:CE}(G1:GV ae w ag aa (.Name (S "dict") p1) (.type "dict"))(G2:GV ae w ag aa (.Name (S "zip") p2) (.type "zip"))(hp: [e1,e2].all notStar=true)
 (ha:SL ae w ag n aa (spliced (g9 tH (fW [e1,e2] aa))) (eA [c1,c2])):SE ae w ag n aa (eval (.Call (.Name (S "dict") p1) [.Call (.Name (S "zip") p2) [e1,e2] [] tH] [] xQ) aa) (zT c1 c2):=λA s α ρ σ pv aq E Q ho R T e q0=>cy e λargs bj ea eb=>c4 eb λl ef eb=>c4 eb λps ep eb=>gF eb λhz eb=>gD (Nj ef) λa b za zb=>by
 have one:∀x:a6,notStar x=true→ [x].all notStar=true:=λx k=>by simp[k]
 refine Call_ (G1 A s E _ R.fn R.gl R.bu T.base (o6 (P:=λh=>∀b o,ag.get? b=some o→h.get? b=some o) (by rw[lO (one _ rfl)];rfl) oZ (nV (one _ rfl) (sE (Call_ (G2 A s E _ R.fn R.gl R.bu T.base
  (o6 (P:=λh=>∀b o,ag.get? b=some o→h.get? b=some o) (by rw[lO hp];rfl) oZ (nV hp (ha A s α ρ σ _ bj E _ ho R T ea λvs h' tk aD X T' V=>⟨T'.base,a7.i2 (vs:=vs) ((show args= [PV.tup a,PV.tup b]from za)▸V) λv u zv V U=>V.iT λt1 lG m1 w1 oF kD r1=>U.iT λt2 lH m2 w2 gG qN r2=> ?_⟩))))) (oR rfl [] aa)))))
 rw[zv,w1,w2];have R':=R.ext X;refine callType_new F.called_zip (by decide) (F.typeCall_zip_2 _ _) (F.newCall_zip_2 _ _) (λobj=>F.args_object_init_3 obj _ _) F.entry_zip_new
  (Lv t1 t2 lG lH) ⟨⟨_,oF,rfl,m1,rfl⟩,⟨_,gG,rfl,m2,rfl⟩,?_⟩
 have Z:=Qf h' t1 t2;have z5:(oG h' t1 t2).objs.size=h'.objs.size+5:=(gY ..).trans (bV (· +1) Z.2.2);rw[Z.2.2];refine⟨⟨_,Z.1.z,rfl⟩,uY ⟨λb o e=>Z.2.1 b o (T'.base b o e),?_⟩⟩;generalize oG h' t1 t2=H5 at Z z5⊢;have fresh:∀i:Nat,h'.get? (h'.objs.size+i)=none:=λi=>yy.mpr λo g=>bP (dy g) (eP.mpr (bR _ _));have ne:∀i:Nat,i≠5→h'.objs.size+5≠h'.objs.size+i:=λi q z=>q (JQ z).symm;have I:BV h' aD H5.objs.size (x9 h'.objs.size t1 t2) a b:=⟨OU (dy oF) (dy gG),w1▸V,w2▸U,ly (fresh 4) (fresh 3) (fresh 0) (fresh 1),z5▸fresh 5,z5▸λm=>ly (P:=λc=>h'.objs.size+5≠c) (ne 4 (by decide)) (ne 3 (by decide)) (ne 0 (by decide)) (ne 1 (by decide)) _ m rfl,z5▸ne 2 (by decide)⟩;refine L7 (s:={s with heap:=H5,toks:=tk.1,drawn:=tk.2}) Z.1.z rfl (by decide) ho.1 (λA E s' Q g hA k=>Yt g hA k) λh6 tk6 k6 hd6=>Ka (k6 _ _ Z.1.z) (Yv (A:=A.in1) ho.1 I ps 0 _ [] ?_ ?_ ⟨λb o e=>k6 b o (Z.2.1 b o e),⟨[],hd6,rfl,.nil⟩,eH _⟩ (.inl ⟨k6 _ _ Z.1.z,k6 _ _ Z.1.ti,Z.1.to.imp λx h=>h.imp λy h=>k6 _ _ h,Z.1.a.at (k6 _),Z.1.b.at (k6 _)⟩)
  λh7 tk7 F7=>⟨rfl,F7.made iq (c:=⟨A,s,aa.locals,E⟩) (m:=⟨h',tk,aD⟩) (tk:=(tk7,tk.2)) ⟨ho,R'.ns,R'.dX,R'.jg,T'⟩ I.hd λm' v l T V=>cw eb λy1 y2=>q0 v m'.h m'.tk m'.α (X.trans l) (y2▸T) (y1▸V)⟩)
 ·exact(L8 ep).symm.trans zb
 ·rw[nR];lia
end
end
noncomputable def insI(a:Int):List Int→List Int
 | []=> [a]
 |b::l=>if a≤b then a::b::l else b::insI a l
def oD(l:List Int):List Int:=l.foldr insI []
theorem insI_perm(a:Int):∀l:List Int,(insI a l).Perm (a::l):=by
 intro x0
 induction x0 with
 |nil=>exact .refl _
 |cons b l ih=>
  by_cases q:a≤b
  ·exact .of_eq (aP q)
  ·exact(List.Perm.of_eq (aS q)).trans (((ih).cons b).trans (.swap ..))
theorem Xi:∀l:List Int,(oD l).Perm l:=by
 intro x0
 induction x0 with
 |nil=>exact .refl _
 |cons b l ih=>exact(insI_perm b _).trans ((ih).cons b)
theorem aaP(a:Int):∀l:List Int,l.Pairwise (· ≤·)→(insI a l).Pairwise (· ≤·):=by
 intro x0
 induction x0 with
 |nil=>exact λz=>Ug ..
 |cons b l ih=>
  intro h;have hb:=sf.mp h;by_cases q:a≤b
  ·rw[show insI a (b::l)=a::b::l from aP q];refine sf.mpr ⟨λy hy=> ?_,h⟩;rcases cG.mp hy with rfl|hy
   ·exact q
   ·exact oY q (hb.1 y hy)
  ·rw[show insI a (b::l)=b::insI a l from aS q];refine sf.mpr ⟨λy hy=> ?_,ih hb.2⟩;rcases cG.mp ((insI_perm a l).mem_iff.mp hy)with rfl|hy
   ·exact dS (Int.not_le.mp q)
   ·exact hb.1 y hy
theorem aaQ:∀l:List Int,(oD l).Pairwise (· ≤·):=by
 intro x0
 induction x0 with
 |nil=>exact .nil
 |cons b l ih=>exact aaP b _ (ih)
theorem VO{l r:List Int}(p:r.Perm l)(u:r.Pairwise (· ≤·)):r=oD l:=
 List.Perm.eq_of_pairwise (λz z z z a b=>Int.le_antisymm a b) u (aaQ l) (p.trans (Xi l).symm)
def n9:List PV→ah→Option (PV×ah):=λargs σ=>match args with
 | [.loc k]=>match σ[k]? with
  |some (.aU l)=>if l.length<64 then some (.lst ((oD (l.map (·.1))).map PV.int),σ)else none
  |_=>none
 |_=>none
section
variable{ae:bw}{w:br}{ag:aF}{K:Frag}{n:Nat}{aa:Env}
theorem KQ:∀{kvs:List (Int×au)} {vs:List au},vs.length=kvs.length→(∀(j:Nat) (v:au),vs[j]? =some v→∃k x,kvs[j]? =some (k,x)∧(jP ae w).is k v=true)→IntsAre vs (kvs.map (·.1))
 | [],[],_,_=> .nil
 |(a,x)::kvs,v::vs,h,g=>by
  refine gD (g 0 v rfl) λk y e1 e2=> ?_;(refine cw e1 λaL aM=> ?_;clear e1;subst aL aM);(refine bG (lN (show mU a v=true from e2)) λt aM=> ?_;clear e2;subst aM);exact .cons _ _ (KQ (by simpa using h) λj v e=>by simpa using g (j+1) v (by simpa using e))
 | [],_::_,h,_=>by simp at h
 |_::_,[],h,_=>by simp at h
theorem VP{h:aF}{α:Al}{ns:List Int}(i:IntsAre vs ns):a7 h α vs (ns.map PV.int):=by
 induction i with
 |nil=>exact .nil
 |cons n t _ ih=>exact .cons (.int _ _) ih
theorem Yw:eh ae w ag n (.builtin "sorted") n9:=by
 intro A s α σ L vs args pv aq E Q ho N hL hz T V e q;cases V with
 |nil=>exact aQ e
 |cons V Vs=>
 cases Vs with
 |cons=>cases V<;>exact aQ e
 |nil=>
 cases V with
 | @loc a _ k ea=>
  dsimp only[n9]at e;cases el:σ[k]? with
  |none=>rw[el]at e;exact aQ e
  |some o=>cases o with
   |aU l=>
    rw[el]at e;refine gF e λbJ e=> ?_;(refine cw e λaL aM=> ?_;clear e;subst aL;subst aM);obtain⟨⟨rfl,hd⟩,kvs,D,e4,Vs⟩:=T.objs k _ _ _ ea el;have jG:kvs.length=l.length:=by have:=bV su e4;simpa using this
    refine bG (Heap.DictOf.dictAt D) λep hat=> ?_;(refine bG N λmm rP=> ?_;clear N);have F0:Fr ag L s.heap mm:=⟨rP,T.base,hz⟩;refine kdu_sorted (kdl_dict (knd:=jP ae w) (kvs:=kvs) (ep:=ep) hd) ho.1 F0 (qh (ag:=ag) (h:=s.heap) (L:=L)) hat (by rw[qe];exact cQ (b:=1) (ao (ao (bH (bM jG) 1) bJ) (aK rfl))) λB h1 RT us F1 N1 dD Ss hus=> ?_;have hB:=N1 _ mM;have k1:Kp L s.heap h1:=sy T.base F0 F1 N1 λp hp=>kF _ hp;refine kY slot_list_sort ⟨_,hB.1,rfl⟩ entry_list_sort ?_ (args_list_sort _);have Su:h1.get? B=some (oh "list" us.toArray 0):=hB.1;refine list_sort_tree Su (KQ Ss hus) (ao (ao (bH (bM Ss) 1) (bH (bM jG) 1)) bJ) λout ns' BU ho2 ho3=>⟨_,rfl,?_⟩;obtain⟨e1,g1⟩:∃e1,(h1.update B (nW λy=> #[])).get? B=some (oh "list" #[] e1):=⟨_,CZ Su (λy=> #[])⟩;obtain⟨c2,g3⟩:∃c2,(sortedHeap h1 B us out).get? B=some (oh "list" out c2):=⟨_,CZ (cR _ (cR _ g1)) λy=>out⟩;have Qq:s.heap.get? B=none:=by
     cases g:s.heap.get? B with
     |none=>rfl
     |some o=>
      exfalso;exact gJ B (dD _ (rA.mpr ⟨g,hB.2.2,hB.2.1⟩))
    have k2:Kp L s.heap (sortedHeap h1 B us out):=by
     have up:∀x o,h1.get? x=some o→x≠B→(sortedHeap h1 B us out).get? x=some o:=λx o e n1=>
      (yD _ _ _ _ n1).trans (cR _ (cR _ ((yD _ _ _ _ n1).trans e)))
     exact⟨λx o e l=>up x o (k1.keep x o e l) λz=>(by rw[z,Qq]at e;exact aQ e),λm e=>(k1.ns m e).at' λo g=>up L o g hB.2.1.symm⟩
    have hBn:B∉own α:=λm=>by
     refine nG (T.there _ m) λo g=> ?_;rw[Qq]at g;exact aQ g
    rw[((VO (by rw[←e4];exact ho2) ho3).symm)]at q;exact q _ _ (RT,s.drawn) α (k2.ext α) (T.kp k2 hL ⟨mm,rP⟩ (pC hz)) (.lst g3 hBn (VP BU))
   |_=>rw[el]at e;exact aQ e
 |_=>exact aQ e
end
def Hu:gq:=λz a b=>(keyOf a).bind λx=>(keyOf b).bind λy=>some (fx x y)
noncomputable def vy(l:List (Bool×Bool)):Bool:=l.foldr (λp b=>bif p.1 then b else p.2) false
structure v7(ae:bw)(w:br)(s:aE)(x y:au)(e l:Bool):Prop where
 eq:∀(A:bO) (E:au→aE→Prop) (Q:Bool→aE→Prop),Q e s→aY (ba ae w) A (eqBool x y) Q E s
 lt:∀(A:bO) (E:au→aE→Prop) (Q:au→aE→Prop),Q (.bool l) s→aY (ba ae w) A (richCompare .Lt x y) Q E s
section
variable{ae:bw}{w:br}{ag:aF}{K:Frag}{n:Nat}{aa:Env}
theorem acB{A:bO}{E:au→aE→Prop}{s:aE}{a b:aI}{vs us:Array au}(hw:A.units<cLine)(ht:IsT s.heap a vs m)(hu:IsT s.heap b us k){l:List ((au×au)×Bool×Bool)}(hz:vs.toList.zip us.toList=l.map z0)(hs:vs.size=us.size)(hp:∀x∈l,v7 ae w s x.1.1 x.1.2 x.2.1 x.2.2)(q:Q (.bool (vy (l.map wY))) s):aY (ba ae w) A (richCompare .Lt (.ref a) (.ref b)) Q E s:=by
 have Sv:s.TypeIs (.ref a) "tuple":=⟨_,ht,rfl⟩;have Sw:s.TypeIs (.ref b) "tuple":=⟨_,hu,rfl⟩;refine wpAny_richCompare_same_room (T:="tuple") Sv Sw F.slot_tuple_lt ?_ hw;refine kY F.slot_tuple_lt Sv F.entry_tuple_lt ?_ (F.args_tuple_lt_2 _ _);refine aB (m:=zA (.ref b) (.type "tuple")) (yP (T:="tuple") (b:=true) Sw (by rw[gX];kernel_rfl) ?_);dsimp only;refine aB (JW ht rfl (aB (JW hu rfl ?_)));rw[hz,hs];refine aB (Kb _ (λav b s'=>b.1=none∧s'=s∧∃l,av=l.map z0∧(∀x∈l,v7 ae w s x.1.1 x.1.2 x.2.1 x.2.2)∧Q (.bool (vy (l.map wY))) s) _ (λx av b s' h=> ?_) (λb s' h=> ?_) _ _ ⟨rfl,rfl,l,rfl,hp,q⟩)
 ·refine h.2.2.elim λl h'=> ?_;rw[h.2.1];cases l with
  |nil=>exact rN h'.1.symm
  |cons y l=>
   have e:=nS h'.1;have P:=h'.2.1 y (.head _);have q:Q (.bool (bif y.2.1 then vy (l.map wY)else y.2.2)) s:=h'.2.2;rw[e.1];refine aB (P.eq _ _ _ ?_);cases hy:y.2.1 with
   |true=>exact a4 ⟨rfl,rfl,l,e.2,λx m=>h'.2.1 x (.tail _ m),(hy▸q:)⟩
   |false=>exact aB (rt (aB (P.lt _ _ _ (aB (a4 (a4 (a4 ⟨_,rfl,nofun,(hy▸q:)⟩)))))))
 ·refine h.2.2.elim λl h'=> ?_;rw[h.2.1,h.1];have q:=h'.2.2;rw[q8.mp h'.1.symm]at q;exact a4 ⟨_,rfl,nofun,by simpa [Builtin.Tuple.tupleCompareSizes,vy]using q⟩
theorem v7.int{s:aE}{a b:Int}{t u:Tok}:v7 ae w s (.int a t) (.int b u) (a==b) (decide (a<b)):=⟨λz z z q=>Kc q,λz z z q=>P.lt_int q⟩
theorem v7.str{s:aE}{a b:String}{t u:Tok}:v7 ae w s (.str (S a) t) (.str (S b) u) (a==b) (mz a b):=⟨λy y y q=>wpAny_eqBool_str (by
 have:decide (S a=S b)=(a==b):=by
  by_cases h:a=b
  ·rw[h];simp
  ·rw[kc.mpr h,bT λz=>h (jz z)]
 exact this▸q),λy y y q=>P.lt_str q⟩
theorem aaR{x y:K3}:fx x y=vy [(x.1==y.1,decide (x.1<y.1)),(x.2.1==y.2.1,mz x.2.1 y.2.1),(x.2.2==y.2.2,decide (x.2.2<y.2.2))]:=by
 unfold fx vy;by_cases h1:x.1=y.1
 ·rw[aP h1,eF.mpr h1];by_cases h2:x.2.1=y.2.1
  ·rw[aP h2,eF.mpr h2];by_cases h3:x.2.2=y.2.2
   ·rw[eF.mpr h3,h3];exact bT (Int.lt_irrefl _)
   ·rw[kc.mpr h3];rfl
  ·rw[aS h2,kc.mpr h2];rfl
 ·rw[aS h1,kc.mpr h1];rfl
theorem aaS:fq ae w ag n .Lt Hu:=λA s α σ L v u a b r E Q ho N hL hz T V U e q=>c4 e λx e1 e=>c4 e λy e2 e=>by
 rw[DU e1]at V;rw[DU e2]at U;refine V.eT λa vs m ht z r1=>U.eT λb us k hu z r2=> ?_;refine a7.iC r1 λv1 vt ev V1 R1=>R1.i2 λv2 v3 ev2 V2 V3=>a7.iC r2 λu1 ut eu U1 R2=>R2.i2 λu2 u3 eu2 U2 U3=> ?_;refine acB (yH (bR _ _) ho.AE) ht hu (l:= [((v1,u1),x.1==y.1,decide (x.1<y.1)),((v2,u2),x.2.1==y.2.1,mz x.2.1 y.2.1),((v3,u3),x.2.2==y.2.2,decide (x.2.2<y.2.2))]) (by rw[ev,ev2,eu,eu2];rfl) (r1.size.trans r2.size.symm) ?_ ?_
 ·exact r9.mpr ⟨V1.eI λz=>U1.eI λz=> .int,r9.mpr ⟨V2.eS λz z=>U2.eS λz z=> .str,r9.mpr ⟨V3.eI λz=>U3.eI λz=> .int,λz m=>nomatch m⟩⟩⟩
 ·exact aaR▸(c8 e▸q (s.toks,s.drawn))
end
abbrev KBw(w:br)(ag:aF):Prop:=lW (KK w.params) ag
def AL(y:Str):Bool:=S y.toString==y
theorem DV{y:Str}(h:AL y=true):∃x,y=S x:=⟨y.toString,(eF.mp h).symm⟩
def xb(scope:Scope)(kindOf:Str→Option kJ)(tg:List String):Bool:=
 decide (scope.kind= .function)&&scope.names.all (λp=>decide (scope.names.lookup p.1=some p.2))&&scope.names.all (λp=> !decide (p.2= .free)||(AL p.1&&(decide (kindOf p.1=some .cell)||decide (kindOf p.1=some .free))))&&
 scope.names.all (λp=> !decide (p.2= .cell)||AL p.1)&&scope.names.all (λp=> !(decide (p.2= .local)||decide (p.2= .cell))||(tg.map S).contains p.1)
theorem wO(h:xb scope aa.kindOf tg=true):ll scope aa tg:=by
 simp only[xb,ia,fU,ja,uw,rf,lL]at h;obtain⟨⟨⟨⟨h1,h2⟩,h3⟩,h4⟩,h5⟩:=h;refine⟨h1,λy k m=>h2 _ m,λy m=> ?_,λy m=> ?_,λx e=> ?_⟩
 ·rcases h3 _ m with z|z
  ·exact bP rfl z
  ·(refine bG (DV z.1) λx aL=> ?_;subst aL);exact⟨x,rfl,z.2⟩
 ·rcases h4 _ m with z|z
  ·exact bP rfl z
  ·exact DV z
 ·have key:∀k,scope.names.lookup (S x)=some k→(k= .local∨k= .cell)→x∈tg:=λk e z=>by
   rcases h5 _ (mem_of_lookup e)with z'|z'
   ·rcases z with rfl|rfl<;>simp at z'
   ·have:S x∈tg.map S:=by simpa using z'
    refine aT (dR.mp this) λy hy e'=> ?_;exact jz e'▸hy
  rcases e with e|e
  ·exact key _ e (.inl rfl)
  ·exact key _ e (.inr rfl)
def wW(scope:Scope)(params:List String):Bool:=
 decide (scope.kind= .function)&& !scope.isGenerator&& !scope.isCoroutine&&scope.names.all (λp=> !decide (p.2= .free))&&scope.names.all (λp=>decide (scope.names.lookup p.1=some p.2))&&
 scope.names.all (λp=> !decide (p.2= .cell)||AL p.1)&&params.all (λx=>decide (scope.names.lookup (S x)=some .local)||decide (scope.names.lookup (S x)=some .cell))
theorem uL(h:wW scope params=true):rC scope params:=by
 simp only[wW,ia,fU,ja,uw,rf,lL]at h;obtain⟨⟨⟨⟨⟨⟨h1,h2⟩,h3⟩,h4⟩,h5⟩,h6⟩,h7⟩:=h;refine⟨⟨h1,h2,h3⟩,λp m=>h4 _ m,λy k m=>h5 _ m,λy m=> ?_,λx m=>h7 x m⟩;rcases h6 _ m with z|z
 ·exact bP rfl z
 ·exact DV z
theorem yT:∀(names:List (Str×kJ)) (n:Nat) (acc:List (Str×aI)) (y:Str) (c:aI),(ju n names acc).lookup y=some c→acc.lookup y=some c∨ @LE.le Nat _ n c
 | [],_,_,_,_,h=> .inl h
 |(x,k)::r,n,acc,y,c,h=>by
  unfold ju at h;split at h
  ·rcases yT r (n+1) _ y c h with h|h
   ·rw[ke]at h;split at h
    ·cases h;exact .inr (cH _)
    ·exact .inl h
   ·exact .inr (CJ h)
  ·exact yT r n acc y c h
section
variable{ae:bw}{w:br}{ag:aF}{n:Nat}{aa:Env}
theorem gB(B:KBw w ag){x:String}{pos:Pos}(hk:aa.kindOf (S x)=some .globalImplicit)(hd:(S x==("__debug__":Str))=false:=by kernel_rfl)(hg:nsIn (KK w.params) ic (S x)=some none:=by kernel_rfl)(hn:S x≠"__name__":=by decide)(hb:Dg (S x)=some v:=by kernel_rfl):
 GV ae w ag aa (.Name (S x) pos) v:=ZY B hk hd hg hn hb
theorem gO(B:KBw w ag){x:String}{pos:Pos}(hk:aa.kindOf (S x)=some .globalImplicit)(hd:(S x==("__debug__":Str))=false:=by kernel_rfl)(hg:nsIn (KK w.params) ic (S x)=some (some v):=by kernel_rfl):
 GV ae w ag aa (.Name (S x) pos) v:=abA B hk hd hg
end
section
noncomputable def zU:CE:=λz σ=>some (.tup [.str "linear_le",.str "linear_eq",.str "linear_ne"],σ)
noncomputable def Eh:CE:=λz σ=>some (.tup [.str "times",.str "div",.str "mod",.str "abs",.str "max",.str "min"],σ)
noncomputable def DJ:CE:=λz σ=>some (.tup [.str "element",.str "element_of",.str "table",.str "inverse",.str "circuit"],σ)
noncomputable def DW:CE:=λz σ=>some (.tup [.str "all_different",.str "count",.str "nvalue",.str "cardinality"],σ)
noncomputable def Ei:CE:=λz σ=>some (.tup [.str "cumulative",.str "disjunctive"],σ)
noncomputable def DX:CE:=λz σ=>some (.tup [.str "lex_le",.str "lex_lt",.str "increasing",.str "precede"],σ)
noncomputable def As:CE:=λz σ=>some (.int 1000000,σ)
def VQ:CS:=
 (ak (bI (aN jv [(runC false [".0","x"] (bE (af "scope")) (a8 "x") (λz σ=>some (true,σ)) (λk=>bK (aG (af "values") (af "x")) k) bQ)]))
 aC)
def zm:List PV→ah→Option (PV×ah):=cI ["scope","values"] VQ
abbrev OV:=bx "total" (bU dj (af "total") (bU l7 (af "coef") (aG (af "values") (af "x"))))
def Ks:CS:=
 (ak (cW (af "told") (gP [(a8 "name"),(a8 "coefs"),(a8 "scope"),(a8 "c")]))
 (ak (bx "total" (aw 0))
 (ak (AG (oC (af "coefs") (af "scope")) (gP [(a8 "coef"),(a8 "x")]) (ak OV
 aC))
 (ak (bt (aJ bA (af "name") (a5 "linear_le")) (ak (bI (cJ (aJ kR (af "total") (af "c"))))
 aC) aC)
 (ak (bI (cJ (aJ bA (cJ (aJ bA (af "total") (af "c"))) (cJ (aJ bA (af "name") (a5 "linear_eq"))))))
 aC)))))
def yZ:List PV→ah→Option (PV×ah):=cI ["told","values"] Ks
abbrev E2:=aG (af "values") (aG (af "told") (aw 1))
abbrev E3:=bx "name" (aG (af "told") (aw 0))
abbrev OW:=aN zm [(aG (af "told") (aw 1)),(af "values")]
def UX:CS:=
 (ak E3
 (ak (bt (aJ bA (af "name") (a5 "circuit")) (ak kL
 aC) aC)
 (ak (bt (aJ bA (af "name") (a5 "table")) (ak (bI (cJ (aJ di OW (aG (af "told") (aw 2)))))
 aC) aC)
 (ak (bt (aJ bA (af "name") (a5 "inverse")) (ak kL
 aC) aC)
 (ak (bx "some" (fm (aJ bA (af "name") (a5 "element")) (aN zm [(aG (af "told") (aw 2)),(af "values")]) (aG (af "told") (aw 2))))
 (ak (bx "at" E2)
 (ak (bI (cJ (fk ([(cJ (pq kR kR (aw 1) (af "at") (aN cq [(af "some")]))),(cJ (aJ bA (aG (af "some") (bU iM (af "at") (aw 1))) (aG (af "values") (aG (af "told") (aw 3)))))].map cB))))
 aC)))))))
def C1:List PV→ah→Option (PV×ah):=cI ["told","values"] UX
abbrev E4:=bE (aN gz [(aN cq [(af "some")])])
def U8:CS:=
 (ak (cW (bg [(aG (af "told") (aw 0)),OW]) (gP [(a8 "name"),(a8 "some")]))
 (ak (bt (aJ bA (af "name") (a5 "count")) (ak kL
 aC) aC)
 (ak (bt (aJ bA (af "name") (a5 "cardinality")) (ak kL
 (ak kL
 aC)) aC)
 (ak (bx "unlike" (aN cq [(runC false [".0","k"] E4 (a8 "k") (aJ ej (aG (af "some") (af "k")) (jw (af "some") cU (af "k") cU)) (λk=>bK (af "k") k) bQ)]))
 (ak (bI (cJ (aJ bA (af "unlike") (fm (aJ bA (af "name") (a5 "all_different")) (aN cq [(af "some")]) (aG (af "values") (aG (af "told") (aw 2)))))))
 aC)))))
def C6:List PV→ah→Option (PV×ah):=cI ["told","values"] U8
abbrev OX:=aN yZ [(aG (af "told") (aw 2)),(af "values")]
def aaT:CS:=
 (ak E3
 (ak (bt (aJ di (af "name") zU) (ak (bI (aN yZ [(af "told"),(af "values")]))
 aC) aC)
 (ak (bt (aJ di (af "name") Eh) (ak kL
 aC) aC)
 (ak (bt (aJ di (af "name") DJ) (ak (bI (aN C1 [(af "told"),(af "values")]))
 aC) aC)
 (ak (bt (aJ di (af "name") DW) (ak (bI (aN C6 [(af "told"),(af "values")]))
 aC) aC)
 (ak (bt (aJ di (af "name") Ei) (ak kL
 aC) aC)
 (ak (bt (aJ di (af "name") DX) (ak kL
 aC) aC)
 (ak (bt (aJ bA (af "name") (a5 "regular")) (ak kL
 aC) aC)
 (ak (bt (aJ bA (af "name") (a5 "reif")) (ak (bI (cJ (aJ bA OX (cJ (aJ bA E2 (aw 1))))))
 aC) aC)
 (ak (bt (aJ bA (af "name") (a5 "imp")) (ak (bI (cJ (dh ([(cJ (aJ bA E2 (aw 0))),OX].map cB))))
 aC) aC)
 (ak kL
 aC)))))))))))
def sP:List PV→ah→Option (PV×ah):=cI ["told","values"] aaT
abbrev E5:=aN jT [(aG (af "told") (aw 2))]
abbrev E6:=aN jT [(aG (af "told") (aw 1))]
def U9:CS:=
 (ak E3
 (ak (bt (dh [(aJ bA (af "name") (a5 "reif")),(aJ bA (af "name") (a5 "imp"))]) (ak (bI (bU dj (dc [(aG (af "told") (aw 1))]) (aN jT [(aG (aG (af "told") (aw 2)) (aw 2))])))
 aC) aC)
 (ak (bt (aJ di (af "name") zU) (ak (bI E5)
 aC) aC)
 (ak (bt (aJ di (af "name") (bg [(a5 "times"),(a5 "div"),(a5 "mod"),(a5 "abs"),(a5 "xor")])) (ak (bI (aN jT [(jw (af "told") (aw 1) cU cU)]))
 aC) aC)
 (ak (bt (aJ di (af "name") (bg [(a5 "max"),(a5 "min"),(a5 "and"),(a5 "or"),(a5 "nvalue")])) (ak (bI (bU dj E6 (dc [(aG (af "told") (aw 2))])))
 aC) aC)
 (ak (bt (aJ di (af "name") (bg [(a5 "inverse"),(a5 "lex_le"),(a5 "lex_lt"),(a5 "clause")])) (ak (bI (bU dj E6 E5))
 aC) aC)
 (ak (bt (aJ bA (af "name") (a5 "element")) (ak (bI (bU dj (bU dj (dc [(aG (af "told") (aw 1))]) E5) (dc [(aG (af "told") (aw 3))])))
 aC) aC)
 (ak (bt (aJ bA (af "name") (a5 "element_of")) (ak (bI (dc [(aG (af "told") (aw 1)),(aG (af "told") (aw 3))]))
 aC) aC)
 (ak (bt (aJ bA (af "name") (a5 "count")) (ak (bI (bU dj E6 (dc [(aG (af "told") (aw 3))])))
 aC) aC)
 (ak (bI (aN jT [(fm (aJ bA (af "name") (a5 "precede")) (aG (af "told") (aw 3)) (aG (af "told") (aw 1)))]))
 aC))))))))))
def C7:List PV→ah→Option (PV×ah):=cI ["told"] U9
abbrev Qr:=bt (aJ ej (af "x") (af "found")) (ak (lq (jF (af "found") "list" oB [(af "x")])) aC) aC
def Xj:CS:=
 (ak (bx "found" (lX []))
 (ak (ft (bE (aN C7 [(af "told")])) (a8 "x") (ak Qr
 aC))
 (ak (bI (aN jv [(af "found")]))
 aC)))
def DK:List PV→ah→Option (PV×ah):=cI ["told"] Xj
abbrev nC:=gP [(a8 "low"),(a8 "high")]
def acC:CS:=
 (ak (bI (aN Hn [(runC false [".0","low","high"] (bE (af "d")) nC (λz σ=>some (true,σ)) (λk=>bK (bU dj (bU iM (af "high") (af "low")) (aw 1)) k) bQ)]))
 aC)
def Au:List PV→ah→Option (PV×ah):=cI ["d"] acC
abbrev xR:=ak (bt (aJ kR (af "v") (af "high")) (ak (bI (aN tB [(af "low"),(af "v")])) aC) aC) aC
def VR:CS:=
 (ak (ft (bE (af "d")) nC xR)
 (ak (bI cU)
 aC))
def Lf:List PV→ah→Option (PV×ah):=cI ["d","v"] VR
def adz:CS:=
 (ak (bI (cJ (aJ bA (aN Lf [(af "d"),(af "v")]) (af "v"))))
 aC)
def xv:List PV→ah→Option (PV×ah):=cI ["d","v"] adz
abbrev Hv:=aN gz [(af "low"),(bU dj (af "high") (aw 1))]
abbrev OY:=ak (lq (jF (af "found") "list" Bf [Hv])) aC
def Yx:CS:=
 (ak (bt (fk [(aJ cA (af "d") (bg [])),(aJ t8 (bU iM (aG (aG (af "d") (mh l6 (aw 1))) (aw 1)) (aG (aG (af "d") (aw 0)) (aw 0))) As),(aJ kB (aN Au [(af "d")]) As)]) (ak kL
 aC) aC)
 (ak (bx "found" (lX []))
 (ak (ft (bE (af "d")) nC OY)
 (ak (bI (af "found"))
 aC))))
def wX:List PV→ah→Option (PV×ah):=cI ["d"] Yx
def aaU:CS:=
 (ak (bI (aN jv [(runC false [".0","low","high"] (bE (af "d")) nC (aJ kR (af "low") (af "k")) (λk=>bK (bg [(af "low"),(aN vw [(af "high"),(af "k")])]) k) bQ)]))
 aC)
def Ah:List PV→ah→Option (PV×ah):=cI ["d","k"] aaU
def Xk:CS:=
 (ak (bI (aN jv [(runC false [".0","low","high"] (bE (af "d")) nC (aJ t8 (af "high") (af "k")) (λk=>bK (bg [(aN tB [(af "low"),(af "k")]),(af "high")]) k) bQ)]))
 aC)
def zH:List PV→ah→Option (PV×ah):=cI ["d","k"] Xk
def Xl:CS:=
 (ak (bI (bU dj (aN Ah [(af "d"),(bU iM (af "v") (aw 1))]) (aN zH [(af "d"),(bU dj (af "v") (aw 1))])))
 aC)
def DL:List PV→ah→Option (PV×ah):=cI ["d","v"] Xl
abbrev Qs:=bg [(aN tB [(aG (aG (af "d") (af "i")) (aw 0)),(aG (aG (af "e") (af "j")) (aw 0))]),(aN vw [(aG (aG (af "d") (af "i")) (aw 1)),(aG (aG (af "e") (af "j")) (aw 1))])]
abbrev Qt:=bt (aJ hU (aG (aG (af "d") (af "i")) (aw 1)) (aG (aG (af "e") (af "j")) (aw 1))) (ak (bx "i" (bU dj (af "i") (aw 1))) aC) (ak (bx "j" (bU dj (af "j") (aw 1))) aC)
abbrev Qu:=ak (iH ["low","high"] Qs) (ak (bt (aJ kR (af "low") (af "high")) (ak (lq (jF (af "found") "list" oB [(bg [(af "low"),(af "high")])])) aC) aC) (ak Qt aC))
def acD:CS:=
 (ak (iH ["found","i","j"] (bg [(lX []),(aw 0),(aw 0)]))
 (ak (gZ (fk [(aJ hU (af "i") (aN cq [(af "d")])),(aJ hU (af "j") (aN cq [(af "e")]))]) Qu 1000)
 (ak (bI (aN jv [(af "found")]))
 aC)))
def EA:List PV→ah→Option (PV×ah):=cI ["d","e"] acD
abbrev E7:=aJ bA (af "sign") (a5 "<=")
abbrev E8:=aJ bA (af "sign") (a5 "=")
def Wl:CS:=
 (ak (cW (af "literal") (gP [(a8 "x"),(a8 "sign"),(a8 "k")]))
 (ak (bt E7 (ak (bI (bg [(af "x"),(a5 ">="),(bU dj (af "k") (aw 1))]))
 aC) aC)
 (ak (bt (aJ bA (af "sign") (a5 ">=")) (ak (bI (bg [(af "x"),(a5 "<="),(bU iM (af "k") (aw 1))]))
 aC) aC)
 (ak (bI (fm E8 (bg [(af "x"),(a5 "!="),(af "k")]) (bg [(af "x"),(a5 "="),(af "k")])))
 aC))))
def Dz:List PV→ah→Option (PV×ah):=cI ["literal"] Wl
abbrev OZ:=bg [(aG (af "literal") (aw 1)),(aG (af "literal") (aw 2))]
def Yy:CS:=
 (ak (iH ["sign","k"] OZ)
 (ak (bt E7 (ak (bI (aN Ah [(af "d"),(af "k")]))
 aC) aC)
 (ak (bt (aJ bA (af "sign") (a5 ">=")) (ak (bI (aN zH [(af "d"),(af "k")]))
 aC) aC)
 (ak (bI (fm E8 (aN EA [(af "d"),(bg [(bg [(af "k"),(af "k")])])]) (aN DL [(af "d"),(af "k")])))
 aC))))
def zV:List PV→ah→Option (PV×ah):=cI ["literal","d"] Yy
def Wm:CS:=
 (ak (bI (cJ (fk ([(gN "int" (af "thing")),(cJ (bY (cB (gN "bool" (af "thing")))))].map cB))))
 aC)
def js:List PV→ah→Option (PV×ah):=cI ["thing"] Wm
def Vj:CS:=
 (ak (bx "b" (aN Hf [(af "b")]))
 (ak (gZ (aJ cA (af "b") (aw 0)) (ak (iH ["a","b"] (bg [(af "b"),(bU rG (af "a") (af "b"))]))
 aC) 1000)
 (ak (bI (af "a"))
 aC)))
def Df:List PV→ah→Option (PV×ah):=cI ["a","b"] Vj
def UM:CS:=
 (ak (cW (lX []) (jU (af "self") 347 "steps"))
 (ak (cW qx (jU (af "self") 347 "places"))
 aC))
def yU:List PV→ah→Option (PV×ah):=m7 ["self"] UM
def DA:CS:=
 (ak (cW (af "domains") (jU (af "self") 403 "domains"))
 (ak (cW qx (jU (af "self") 403 "turned"))
 aC))
def wM:List PV→ah→Option (PV×ah):=m7 ["self","domains"] DA
abbrev E9:=ij (af "self") 403 "turned"
def Vl:CS:=
 (ak (bI (jF E9 "dict" pP [(af "x"),(aG (ij (af "self") 403 "domains") (af "x"))]))
 aC)
def wH:List PV→ah→Option (PV×ah):=cI ["self","x"] Vl
abbrev xS:=aG (af "literal") (aw 0)
abbrev Hw:=fi (af "self") 403 "domain" wH [xS]
abbrev Fc:=aN zV [(af "literal"),Hw]
def UY:CS:=
 (ak (bI (cJ (aJ cA Fc (bg []))))
 aC)
def C2:List PV→ah→Option (PV×ah):=cI ["self","literal"] UY
def UN:CS:=
 (ak (bI (cJ (aJ bA Fc Hw)))
 aC)
def CP:List PV→ah→Option (PV×ah):=cI ["self","literal"] UN
def L9:CS:=
 (ak (cW Fc (gm E9 xS))
 (ak (bI (cJ (aJ cA (aG E9 xS) (bg []))))
 aC))
def zI:List PV→ah→Option (PV×ah):=cI ["self","literal"] L9
abbrev fK:=ak (bI (iG false)) aC
abbrev kN:=ak (bI (iG true)) aC
abbrev Hx:=fi (af "self") 403 "say" zI [(aN Dz [(af "literal")])]
def Wn:CS:=
 (ak (ft (bE (af "clause")) (a8 "literal") (ak (bt (bY (cB Hx)) fK aC)
 aC))
 kN)
def DB:List PV→ah→Option (PV×ah):=cI ["self","clause"] Wn
def UH:CS:=
 (ak (cW (af "domains") (jU (af "self") 463 "domains"))
 (ak (cW (af "most") (jU (af "self") 463 "most"))
 aC))
def CN:List PV→ah→Option (PV×ah):=m7 ["self","domains","most"] UH
abbrev qS:=fi (af "box") 403 "domain" wH [(af "x")]
abbrev Fd:=aG (af "factors") (af "x")
abbrev Fe:=aG (af "domain") (aw 0)
abbrev Fg:=aG (af "domain") (mh l6 (aw 1))
abbrev Qv:=dc [(bU l7 Fd (aG Fe (aw 0))),(bU l7 Fd (aG Fg (aw 1)))]
abbrev Qw:=bg [(bU dj (af "least") (aN vw [(af "ends")])),(bU dj (af "greatest") (aN tB [(af "ends")]))]
abbrev Qx:=ak (bt (aJ bA (aG Fe (aw 0)) (aG Fg (aw 1))) (ak (bx "lack" (bU iM (af "lack") (aG (af "ends") (aw 0)))) aC) (ak (bx "common" (aN Df [(af "common"),Fd])) aC)) aC
abbrev Sx:=ak (bx "domain" qS) (ak (bx "ends" Qv) (ak (iH ["least","greatest"] Qw) Qx))
abbrev Bj:=cW (bU dj (jF (af "factors") "dict" pP [(af "x"),(aw 0)]) (af "factor")) (gm (af "factors") (af "x"))
abbrev Bk:=cJ (aJ cA (fm (aJ kB (af "common") (aw 0)) (bU rG (af "lack") (af "common")) (af "lack")) (aw 0))
abbrev Bl:=cJ (aJ bA (aG (af "told") (aw 0)) (a5 "linear_eq"))
abbrev Bm:=cJ (aJ hU (af "greatest") (aG (af "told") (aw 3)))
abbrev O0:=gP [(a8 "factors"),(a8 "least"),(a8 "greatest"),(a8 "lack"),(a8 "common")]
abbrev O1:=bg [qx,(aw 0),(aw 0),(aG (af "told") (aw 3)),(aw 0)]
abbrev O2:=bt (aJ kB (af "least") (aG (af "told") (aw 3))) kN aC
def Ur:CS:=
 (ak (cW O1 O0)
 (ak (AG (oC (aG (af "told") (aw 1)) (aG (af "told") (aw 2))) (gP [(a8 "factor"),(a8 "x")]) (ak Bj
 aC))
 (ak (ft (bE (aN n9 [(af "factors")])) (a8 "x") Sx)
 (ak O2
 (ak (bI (cJ (fk ([Bl,(cJ (dh ([Bm,Bk].map cB)))].map cB))))
 aC)))))
def Co:List PV→ah→Option (PV×ah):=cI ["self","told","box"] Ur
abbrev Bn:=cJ (aJ bA (aG (af "given") (af "x")) (af "v"))
abbrev Fi:=zT (aG (af "told") (aw 1)) (af "row")
abbrev AM:=aN xv [qS,(af "v")]
def Ux:CS:=
 (ak (ft (bE (aG (af "told") (aw 2))) (a8 "row") (ak (bx "given" Fi)
 (ak (bt (aJ ej (iG false) (runC true [".0","x","v"] (oC (aG (af "told") (aw 1)) (af "row")) (gP [(a8 "x"),(a8 "v")]) (λz σ=>some (true,σ)) (λk=>bK (cJ (fk ([AM,Bn].map cB))) k) bQ)) kN aC)
 aC)))
 fK)
def Cw:List PV→ah→Option (PV×ah):=cI ["self","told","box"] Ux
abbrev Qy:=ak (bx "here" (aG (af "came") (af "free"))) (ak (bx "left" (runC false [".0","v"] (bE (aN n9 [(af "came")])) (a8 "v") (aJ bA (jF (af "owner") "dict" pP [(af "v")]) (af "here")) (λk=>bK (af "v") k) bQ)) (ak (cW (af "here") (gm (af "owner") (af "free"))) (ak (bt (aJ bA (af "here") (af "place")) (ak ON aC) aC) (ak (bx "free" (aG (af "left") (aw 0))) aC))))
def Uy:CS:=
 (ak (gZ (cB (iG true)) Qy 1000)
 aC)
def Cy:List PV→ah→Option (PV×ah):=cI ["self","owner","came","free","place"] Uy
abbrev O3:=bU dj (af "queue") (dc [(aG (af "owner") (af "v"))])
abbrev Qz:=ak (bt (aJ ej (af "v") (af "came")) (ak (cW (af "here") (gm (af "came") (af "v"))) (ak (bt (aJ ej (af "v") (af "owner")) (ak (bx "free" (af "v")) (ak P8 aC)) aC) (ak (bx "queue" O3) aC))) aC) aC
abbrev Fj:=aJ Ab (af "free") cU
abbrev QA:=ak (bt Fj fK aC) (ak (lq (fi (af "self") 463 "move_on" Cy [(af "owner"),(af "came"),(af "free"),(af "place")])) aC)
abbrev Hz:=bg [(aG (af "queue") (aw 0)),(jw (af "queue") (aw 1) cU cU)]
abbrev Fo:=bg [qx,(dc [(af "place")]),cU]
def Uk:CS:=
 (ak (bx "owner" qx)
 (ak (ft (bE (aN gz [(aN cq [(af "lots")])])) (a8 "place") (ak (iH ["came","queue","free"] Fo)
 (ak (gZ (fk [(aJ cA (af "queue") (dc [])),Fj]) (ak (iH ["here","queue"] Hz)
 (ak (ft (bE (aG (af "lots") (af "here"))) (a8 "v") Qz)
 aC)) 1000)
 QA)))
 kN))
def Ci:List PV→ah→Option (PV×ah):=cI ["self","lots"] Uk
abbrev QF:=cJ (bY (cB (fi (af "self") 463 "can_differ" Ci [(runC false [".0","x"] (bE (aG (af "told") (aw 1))) (a8 "x") (λz σ=>some (true,σ)) (λk=>bK (aN wX [qS]) k) bQ)])))
abbrev QH:=cJ (aJ hU (Ag (aG (af "told") (aw 1))) (aN cq [(aG (af "told") (aw 1))]))
abbrev O4:=aJ bA (aG (af "told") (aw 0)) (a5 "all_different")
def Ul:CS:=
 (ak (bt (aJ di (aG (af "told") (aw 0)) (bg [(a5 "linear_le"),(a5 "linear_eq")])) (ak (bI (fi (af "self") 463 "is_beyond" Co [(af "told"),(af "box")]))
 aC) aC)
 (ak (bt O4 (ak (bI (cJ (dh ([QH,QF].map cB))))
 aC) aC)
 (ak (bt (aJ bA (aG (af "told") (aw 0)) (a5 "table")) (ak (bI (cJ (bY (cB (fi (af "self") 463 "has_row" Cw [(af "told"),(af "box")])))))
 aC) aC)
 fK)))
def Cj:List PV→ah→Option (PV×ah):=cI ["self","told","box"] Ul
abbrev Fp:=bU iM (aN cq [(af "some")]) (aw 1)
abbrev O5:=bU AH (dc [(aw 0)]) (aN cq [(af "some")])
def Ut:CS:=
 (ak (bx "lots" (runC false [".0","x"] (bE (af "some")) (a8 "x") (λz σ=>some (true,σ)) (λk=>bK (aN wX [qS]) k) bQ))
 (ak (bx "spots" O5)
 (ak (gZ (cB (iG true)) (ak (bt (cB (aN sP [(af "told"),(aN xu [(runC false [".0","k"] E4 (a8 "k") (λz σ=>some (true,σ)) (λk=>bK (bg [(aG (af "some") (af "k")),(aG (aG (af "lots") (af "k")) (aG (af "spots") (af "k")))]) k) bQ)])])) kN aC)
 (ak (bx "k" Fp)
 (ak (gZ (fk [(aJ t8 (af "k") (aw 0)),(aJ bA (aG (af "spots") (af "k")) (bU iM (aN cq [(aG (af "lots") (af "k"))]) (aw 1)))]) (ak (cW (aw 0) (gm (af "spots") (af "k")))
 (ak (bx "k" (bU iM (af "k") (aw 1)))
 aC)) 1000)
 (ak (bt (aJ hU (af "k") (aw 0)) fK aC)
 (ak (cW (bU dj (aG (af "spots") (af "k")) (aw 1)) (gm (af "spots") (af "k")))
 aC))))) 1000)
 aC)))
def Cq:List PV→ah→Option (PV×ah):=cI ["self","told","some","box"] Ut
abbrev QJ:=runC false [".0","x"] (bE (af "some")) (a8 "x") (λz σ=>some (true,σ)) (λk=>bK qS k) bQ
abbrev O6:=fi (af "self") 463 "is_refuted" Cj [(af "told"),(af "box")]
abbrev O7:=bx "many" (bU l7 (af "many") (aN Au [qS]))
abbrev Sy:=ak (bx "some" (aN DK [(af "told")])) (ak (bt (dh [(aJ di (bg []) QJ),(cB O6)]) kN aC) (ak (bx "many" (aw 1)) (ak (ft (bE (af "some")) (a8 "x") (ak O7 aC)) (ak (bt (aJ kR (af "many") (ij (af "self") 463 "most")) (ak (bI (cJ (bY (cB (fi (af "self") 463 "has_tuple" Cq [(af "told"),(af "some"),(af "box")]))))) aC) aC) (ak (bt (aJ di (aG (af "told") (aw 0)) (bg [(a5 "all_different"),(a5 "table")])) fK aC) (ak kL aC))))))
abbrev xT:=cB (fi (af "box") 403 "deny" DB [(af "clause")])
abbrev O8:=aN (lz 403 wM) [(ij (af "self") 463 "domains")]
def Uz:CS:=
 (ak (bx "box" O8)
 (ak (bt (bY xT) kN aC)
 Sy))
def yC:List PV→ah→Option (PV×ah):=cI ["self","told","clause"] Uz
def UB:CS:=
 (ak (cW (af "domains") (jU (af "self") 539 "domains"))
 (ak (cW (af "tolds") (jU (af "self") 539 "tolds"))
 (ak (cW (af "goal") (jU (af "self") 539 "goal"))
 (ak (cW (aN (lz 463 CN) [(af "domains"),(af "most")]) (jU (af "self") 539 "judge"))
 aC))))
def yK:List PV→ah→Option (PV×ah):=m7 ["self","domains","tolds","goal","most"] UB
abbrev pR:=ij (af "self") 539 "domains"
abbrev HA:=bg [(a5 "<="),(a5 ">="),(a5 "="),(a5 "!=")]
abbrev HB:=pq kR hU (aw 0) (aG (af "one") (aw 0)) (aN cq [pR])
abbrev Bo:=aJ ej (aG (af "one") (aw 1)) HA
abbrev Ft:=aJ cA (aN cq [(af "one")]) (aw 3)
abbrev Fu:=bY (cB (gN "tuple" (af "one")))
def Um:CS:=
 (ak (bt (bY (cB (gN "tuple" (af "clause")))) fK aC)
 (ak (ft (bE (af "clause")) (a8 "one") (ak (bt (dh [Fu,Ft,(bY (cB (aN js [(aG (af "one") (aw 0))]))),(bY (cB (aN js [(aG (af "one") (aw 2))])))]) fK aC)
 (ak (bt (dh [(bY HB),Bo]) fK aC)
 aC)))
 (ak (bI (cJ (aJ bA (aN jT [(af "clause")]) (sI (af "clause")))))
 aC)))
def Ck:List PV→ah→Option (PV×ah):=cI ["self","clause"] Um
abbrev vz:=ij (af "self") 539 "tolds"
abbrev QN:=ak (bI (fm (cB (fi (ij (af "self") 539 "judge") 463 "follows" yC [(aG vz (af "note")),(af "clause")])) (a5 "") (a5 "strike"))) aC
abbrev HC:=pq kR hU (aw 0) (af "note") (aN cq [vz])
abbrev Fv:=cB (aN js [(af "note")])
def TV:CS:=
 (ak (bt (dh [(bY Fv),(bY HC)]) (ak (bI (a5 "note"))
 aC) aC)
 (ak QN
 aC))
def Ca:List PV→ah→Option (PV×ah):=cI ["self","clause","note"] TV
abbrev O9:=cB (fi (af "box") 403 "does_hold" CP [(af "literal")])
abbrev QO:=bt (aJ cA (runC false [".0","literal"] (bE (af "line")) (a8 "literal") O9 (λk=>bK (af "literal") k) bQ) (dc [])) (ak ET aC) aC
abbrev Pa:=cB (fi (af "box") 403 "can_hold" C2 [(af "literal")])
abbrev QQ:=bx "left" (runC false [".0","literal"] (bE (af "line")) (a8 "literal") Pa (λk=>bK (af "literal") k) bQ)
abbrev QR:=ak QO (ak QQ (ak (bt (aJ bA (af "left") (dc [])) kN aC) (ak (bt (dh [(aJ kB (aN cq [(af "left")]) (aw 1)),(bY (cB (fi (af "box") 403 "say" zI [(aG (af "left") (aw 0))])))]) fK aC) aC)))
abbrev Pb:=bt (dh [(aJ di (bg []) pR),(bY xT)]) kN aC
def JL:CS:=
 (ak (bx "box" (aN (lz 403 wM) [pR]))
 (ak Pb
 (ak (ft (bE (af "lines")) (a8 "line") QR)
 fK)))
def Cu:List PV→ah→Option (PV×ah):=cI ["self","clause","lines"] JL
abbrev tI:=aG (af "found") (af "x")
abbrev HD:=ak (bt (dh [(bY (cB (aN js [tI]))),(bY (cB (aN xv [(aG pR (af "x")),tI])))]) fK aC) aC
abbrev Fx:=cB (gN "tuple" (af "found"))
abbrev Pc:=aJ cA (aN cq [(af "found")]) (aN cq [pR])
def Un:CS:=
 (ak (bt (dh [(bY Fx),Pc]) fK aC)
 (ak (ft (bE (aN gz [(aN cq [(af "found")])])) (a8 "x") HD)
 (ak (bI (cJ (aJ bA (runC false [".0","told"] (bE vz) (a8 "told") (bY (cB (aN sP [(af "told"),(af "found")]))) (λk=>bK (af "told") k) bQ) (dc []))))
 aC)))
def Cm:List PV→ah→Option (PV×ah):=cI ["self","found"] Un
abbrev Fy:=gP [(a8 "kind"),(a8 "x")]
abbrev Fz:=ij (af "self") 539 "goal"
abbrev Pd:=bg [(af "x"),(a5 "<="),(bU iM tI (aw 1))]
abbrev Pe:=bg [(af "x"),(a5 ">="),(bU dj tI (aw 1))]
def TX:CS:=
 (ak (cW Fz Fy)
 (ak (bt (aJ bA (af "kind") (a5 "minimize")) (ak (bI (fm (aJ bA (af "clause") (bg [Pd])) (a5 "") (a5 "better")))
 aC) aC)
 (ak (bI (fm (fk [(aJ bA (af "kind") (a5 "maximize")),(aJ bA (af "clause") (bg [Pe]))]) (a5 "") (a5 "better")))
 aC)))
def Cb:List PV→ah→Option (PV×ah):=cI ["self","clause","found"] TX
abbrev Bp:=jU (af "self") 539 "told_apart"
abbrev Pf:=aJ ej (ij (af "self") 539 "told_apart") (bg [cU,(af "some")])
abbrev FA:=bg [(af "x"),(a5 "!="),tI]
abbrev FC:=ij (af "self") 539 "answers"
def Ju:CS:=
 (ak (bt (aJ cA (aG Fz (aw 0)) (a5 "satisfy")) (ak (bI (a5 "goal"))
 aC) aC)
 (ak (bx "some" (aN jv [(runC false [".0","literal"] (bE (af "clause")) (a8 "literal") (λz σ=>some (true,σ)) (λk=>bK xS k) bQ)]))
 (ak (bt (dh [(aJ cA (af "clause") (aN jv [(runC false [".0","x"] (bE (af "some")) (a8 "x") (λz σ=>some (true,σ)) (λk=>bK FA k) bQ)])),Pf]) (ak (bI (a5 "seen"))
 aC) aC)
 (ak (bt (aJ di (af "clause") FC) (ak (bI (a5 "again"))
 aC) aC)
 (ak (cW (af "some") Bp)
 (ak (lq (jF FC "list" oB [(af "clause")]))
 (ak (bI (a5 ""))
 aC)))))))
def Cg:List PV→ah→Option (PV×ah):=cI ["self","clause","found"] Ju
abbrev tJ:=gP [(a8 "rule"),(a8 "clause"),(a8 "premises"),(a8 "note")]
abbrev tK:=bg [(a5 "better"),(a5 "seen")]
abbrev tM:=aG (af "steps") (af "number")
abbrev QU:=runC false [".0","k"] (bE (af "premises")) (a8 "k") (λz σ=>some (true,σ)) (λk=>bK (aG (aG (af "steps") (af "k")) (aw 1)) k) bQ
abbrev xU:=aJ bA (af "rule") (a5 "better")
abbrev AN:=ak (bI (a5 "premise")) aC
abbrev Pg:=cB (fi (af "self") 539 "is_clause" Ck [(af "clause")])
abbrev FD:=bY (cB (gN "tuple" (af "premises")))
abbrev Ph:=cB (fi (af "self") 539 "is_answer" Cm [(af "note")])
abbrev FE:=aJ bA (af "rule") (a5 "nogood")
abbrev FF:=aJ bA (af "rule") (a5 "strike")
abbrev FG:=aJ cA (af "premises") (bg [])
abbrev FH:=ak (bI (a5 "clause")) aC
def Cr:CS:=
 (ak (bt (dh [(bY (cB (gN "tuple" tM))),(aJ cA (aN cq [tM]) (aw 4))]) (ak (bI (a5 "step"))
 aC) aC)
 (ak (cW tM tJ)
 (ak (bt (bY Pg) FH aC)
 (ak (bt (dh [FD,(aJ cA (runC false [".0","k"] (bE (af "premises")) (a8 "k") (dh [(bY (cB (aN js [(af "k")]))),(bY (pq kR hU (aw 0) (af "k") (af "number")))]) (λk=>bK (af "k") k) bQ) (dc []))]) AN aC)
 (ak (bt FE (ak (bI (fm (cB (fi (af "self") 539 "clashes" Cu [(af "clause"),QU])) (a5 "") (a5 "nogood")))
 aC) aC)
 (ak (bt FG AN aC)
 (ak (bt FF (ak (bI (fi (af "self") 539 "strike_fault" Ca [(af "clause"),(af "note")]))
 aC) aC)
 (ak (bt (aJ di (af "rule") tK) (ak (bt (bY Ph) (ak (bI (a5 "answer"))
 aC) aC)
 (ak (bI (fm xU (fi (af "self") 539 "better_fault" Cb [(af "clause"),(af "note")]) (fi (af "self") 539 "seen_fault" Cg [(af "clause"),(af "note")])))
 aC)) aC)
 (ak (bI (a5 "rule"))
 aC)))))))))
def q6:List PV→ah→Option (PV×ah):=cI ["self","steps","number"] Cr
abbrev tN:=ij (af "log") 347 "steps"
def CF:CS:=
 (ak (cW (bg [cU,(lX [])]) (gP [Bp,(jU (af "self") 539 "answers")]))
 (ak (ft (bE (aN gz [(aN cq [tN])])) (a8 "number") (ak (bx "word" (fi (af "self") 539 "fault_of" q6 [tN,(af "number")]))
 (ak (bt (aJ cA (af "word") (a5 "")) (ak (bI (bg [(af "number"),(af "word")]))
 aC) aC)
 aC)))
 (ak (bt (dh [(aJ bA tN (dc [])),(aJ cA (aG (aG tN (mh l6 (aw 1))) (aw 1)) (bg []))]) (ak (bI (bg [(bU iM (aN cq [tN]) (aw 1)),(a5 "end")]))
 aC) aC)
 (ak (bI cU)
 aC))))
def yL:List PV→ah→Option (PV×ah):=m7 ["self","log"] CF
abbrev AO:=aG (af "tape") (a5 "cells")
def LB:CS:=
 (ak (bx "spot" (aG (af "tape") (a5 "spot")))
 (ak (cW (bU dj (af "spot") (aw 1)) (gm (af "tape") (a5 "spot")))
 (ak (bt (aJ hU (af "spot") (aN cq [AO])) (ak (bI (bU rG (aG AO (af "spot")) (af "wide")))
 aC) aC)
 (ak (bI (bU rG (bU rG (bU dj (bU dj (bU dj (bU l7 (bU l7 (aw 5) (af "spot")) (af "spot")) (bU l7 (aw 7) (af "spot"))) (bU l7 (aw 3) (aN cq [AO]))) (aw 2)) (aw 53)) (af "wide")))
 aC))))
def jK:List PV→ah→Option (PV×ah):=cI ["tape","wide"] LB
abbrev kU:=aN jK [(af "tape"),(aw 4)]
abbrev tO:=aN jK [(af "tape"),(aw 3)]
abbrev Pj:=bg [(af "x"),(aG HA kU),(bU iM kU (aw 1))]
abbrev QV:=ak (bx "x" (aN jK [(af "tape"),(af "many")])) (ak (lq (jF (af "some") "list" oB [Pj])) aC)
def KR:CS:=
 (ak (bx "some" (lX []))
 (ak (ft (bE (aN gz [tO])) (a8 "lap") QV)
 (ak (bI (aN jv [(sI (af "some"))]))
 aC)))
def zd:List PV→ah→Option (PV×ah):=cI ["tape","many"] KR
abbrev xV:=aN jK [(af "tape"),(aw 5)]
abbrev tP:=bg [(aw 0),(aw 1)]
def LC:CS:=
 (ak (iH ["kind","c"] (bg [xV,kU]))
 (ak (bt (aJ bA (af "kind") (aw 3)) (ak (bI (bg [(a5 "all_different"),tP,(a5 "values")]))
 aC) aC)
 (ak (bt (aJ bA (af "kind") (aw 4)) (ak (bI (bg [(a5 "table"),tP,(bg [(bg [(aw 0),(af "c")]),(bg [(aw 1),(aw 0)]),(bg [(af "c"),(aw 2)])])]))
 aC) aC)
 (ak (bI (bg [(aG (bg [(a5 "linear_le"),(a5 "linear_eq"),(a5 "linear_ne")]) (af "kind")),(bg [(aw 1),(fm (aJ hU (af "kind") (aw 2)) (aw 1) (mh l6 (aw 1)))]),tP,(fm (aJ hU (af "kind") (aw 2)) (af "c") (aw 0))]))
 aC))))
def zq:List PV→ah→Option (PV×ah):=cI ["tape"] LC
abbrev AP:=aG (af "point") (aw 0)
abbrev AQ:=aG (af "point") (aw 1)
def Lg:CS:=
 (ak (bt O4 (ak (bI (cJ (aJ cA AP AQ)))
 aC) aC)
 (ak (bt (aJ bA (aG (af "told") (aw 0)) (a5 "table")) (ak (bI (cJ (aJ di (bg [AP,AQ]) (aG (af "told") (aw 2)))))
 aC) aC)
 (ak (bx "total" (bU iM (bU dj AP (bU l7 (aG (aG (af "told") (aw 1)) (aw 1)) AQ)) (aG (af "told") (aw 3))))
 (ak (bI (fm (aJ bA (aG (af "told") (aw 0)) (a5 "linear_le")) (cJ (aJ kR (af "total") (aw 0))) (cJ (aJ bA (cJ (aJ bA (af "total") (aw 0))) Bl))))
 aC))))
def uI:List PV→ah→Option (PV×ah):=cI ["told","point"] Lg
def Wo:CS:=
 (ak (iH ["sign","k"] OZ)
 (ak (bt (aJ di (af "sign") (bg [(a5 "="),(a5 "!=")])) (ak (bI (cJ (aJ bA (cJ (aJ bA (af "v") (af "k"))) (cJ E8))))
 aC) aC)
 (ak (bI (fm E7 (cJ (aJ kR (af "v") (af "k"))) (cJ (aJ t8 (af "v") (af "k")))))
 aC)))
def rn:List PV→ah→Option (PV×ah):=cI ["literal","v"] Wo
def UZ:CS:=
 (ak (bI (cJ (fk ([(gN "int" (af "thing")),(cJ (bY (cB (gN "bool" (af "thing")))))].map cB))))
 aC)
def rh:List PV→ah→Option (PV×ah):=cI ["thing"] UZ
abbrev xW:=aN gz [(af "many")]
def UO:CS:=
 (ak (bt (bY (cB (gN "tuple" (af "thing")))) fK aC)
 (ak (ft (bE (af "thing")) (a8 "one") (ak (bt (dh [Fu,Ft,(bY (cB (aN rh [(aG (af "one") (aw 0))]))),(bY (cB (aN rh [(aG (af "one") (aw 2))])))]) fK aC)
 (ak (bt (dh [(aJ sO (aG (af "one") (aw 0)) xW),Bo]) fK aC)
 aC)))
 (ak (bI (cJ (aJ bA (runC false [".0","k"] (bE (aN gz [(aw 1),(aN cq [(af "thing")])])) (a8 "k") (bY (aJ Hu (aG (af "thing") (bU iM (af "k") (aw 1))) (aG (af "thing") (af "k")))) (λk=>bK (af "k") k) bQ) (dc []))))
 aC)))
def CQ:List PV→ah→Option (PV×ah):=cI ["thing","many"] UO
abbrev HE:=runC false [".0","v"] (bE (aG (af "left") (aG (af "one") (aw 0)))) (a8 "v") (bY (cB (aN rn [(af "one"),(af "v")]))) (λk=>bK (af "v") k) bQ
abbrev QW:=bt (aJ cA (runC false [".0","one"] (bE (af "line")) (a8 "one") (aJ bA HE (dc [])) (λk=>bK (af "one") k) bQ) (dc [])) (ak ET aC) aC
abbrev QX:=aJ cA (runC false [".0","v"] (bE (aG (af "left") (aG (af "one") (aw 0)))) (a8 "v") (cB (aN rn [(af "one"),(af "v")])) (λk=>bK (af "v") k) bQ) (dc [])
abbrev QY:=bx "able" (runC false [".0","one"] (bE (af "line")) (a8 "one") QX (λk=>bK (af "one") k) bQ)
abbrev Sz:=ak QW (ak QY (ak (bt (aJ cA (aN cq [(af "able")]) (aw 1)) (ak (bI (cJ (aJ bA (af "able") (dc [])))) aC) aC) (ak (cW (runC false [".0","v"] (bE (aG (af "left") (aG (aG (af "able") (aw 0)) (aw 0)))) (a8 "v") (cB (aN rn [(aG (af "able") (aw 0)),(af "v")])) (λk=>bK (af "v") k) bQ) (gm (af "left") (aG (aG (af "able") (aw 0)) (aw 0)))) aC)))
abbrev Pk:=cW HE (gm (af "left") (aG (af "one") (aw 0)))
def KC:CS:=
 (ak (bx "left" (runC false [".0","lot"] (bE (af "lots")) (a8 "lot") (λz σ=>some (true,σ)) (λk=>bK (aN jT [(af "lot")]) k) xq))
 (ak (ft (bE (af "clause")) (a8 "one") (ak Pk
 aC))
 (ak (bt (aJ di (dc []) (af "left")) kN aC)
 (ak (ft (bE (af "lines")) (a8 "line") Sz)
 fK))))
def C8:List PV→ah→Option (PV×ah):=cI ["lots","clause","lines"] KC
abbrev FI:=cB (aN rh [(af "note")])
abbrev rH:=aG (af "scene") (a5 "points")
abbrev Pn:=cB (aN uI [(aG (aG (af "scene") (a5 "tolds")) (af "note")),(af "point")])
abbrev Po:=cB (aN rn [(af "one"),(aG (af "p") (aG (af "one") (aw 0)))])
abbrev Q0:=aJ bA (runC false [".0","one"] (bE (af "clause")) (a8 "one") Po (λk=>bK (af "one") k) bQ) (dc [])
abbrev SD:=ak (bt (dh [(bY FI),(aJ ej (af "note") tP)]) (ak (bI (a5 "note")) aC) aC) (ak (bx "kept" (runC false [".0","point"] (bE rH) (a8 "point") Pn (λk=>bK (af "point") k) bQ)) (ak (bI (fm (aJ bA (runC false [".0","p"] (bE (af "kept")) (a8 "p") Q0 (λk=>bK (af "p") k) bQ) (dc [])) (a5 "") (a5 "strike"))) aC))
abbrev Q1:=dh [(aJ cA (aG (af "one") (aw 1)) (a5 "!=")),(aJ cA (aG (af "one") (aw 2)) (aG (af "note") (aG (af "one") (aw 0))))]
abbrev Q2:=aJ cA (runC false [".0","one"] (bE (af "clause")) (a8 "one") Q1 (λk=>bK (af "one") k) bQ) (dc [])
abbrev Pp:=aJ ej (aG (af "scene") (a5 "apart")) (bg [cU,(af "apart")])
abbrev FJ:=aG (af "scene") (a5 "seen")
abbrev Q3:=ak (bx "apart" (runC false [".0","one"] (bE (af "clause")) (a8 "one") (λz σ=>some (true,σ)) (λk=>bK (aG (af "one") (aw 0)) k) bQ)) (ak (bt (dh [Q2,Pp]) (ak (bI (a5 "seen")) aC) aC) (ak (bI (fm (aJ di (af "clause") FJ) (a5 "again") (a5 ""))) aC))
abbrev HF:=bU iM (aG (af "note") (aw 0)) (aw 1)
abbrev FK:=bg [(af "x"),(a5 "<="),HF]
abbrev FN:=bU dj (aG (af "note") (aw 0)) (aw 1)
abbrev Bq:=bg [(af "x"),(a5 ">="),FN]
abbrev Q4:=ak (bx "due" (vk [("minimize",(bg [FK])),("maximize",(bg [Bq]))])) (ak (bI (fm (fk [(aJ di (af "kind") (af "due")),(aJ bA (af "clause") (aG (af "due") (af "kind")))]) (a5 "") (a5 "better"))) aC)
abbrev Q5:=bt (dh [FD,(aJ cA (runC false [".0","k"] (bE (af "premises")) (a8 "k") (dh [(bY (cB (aN rh [(af "k")]))),(aJ sO (af "k") (aN gz [(aN cq [(af "steps")])]))]) (λk=>bK (af "k") k) bQ) (dc []))]) AN aC
abbrev vA:=aG (af "scene") (a5 "answers")
abbrev AR:=aG (af "scene") (a5 "lots")
abbrev HG:=cB (aN CQ [(af "clause"),(aN cq [AR])])
abbrev Q6:=aJ cA (runC false [".0","v"] (bE (af "note")) (a8 "v") (bY (cB (aN rh [(af "v")]))) (λk=>bK (af "v") k) bQ) (dc [])
abbrev Q7:=bt (dh [(bY (cB (gN "tuple" (af "step")))),(aJ cA (aN cq [(af "step")]) (aw 4))]) (ak (bI (a5 "step")) aC) aC
abbrev xX:=aG (af "scene") (a5 "goal")
abbrev FP:=cB (gN "tuple" (af "note"))
def zt:CS:=
 (ak Q7
 (ak (cW (af "step") tJ)
 (ak (bt (bY HG) FH aC)
 (ak Q5
 (ak (bt FE (ak (bI (fm (cB (aN C8 [AR,(af "clause"),QU])) (a5 "") (a5 "nogood")))
 aC) aC)
 (ak (bt FG AN aC)
 (ak (bt FF SD aC)
 (ak (bt (aJ ej (af "rule") tK) (ak (bI (a5 "rule"))
 aC) aC)
 (ak (bt (dh [(bY FP),Q6,(aJ ej (aN jT [(af "note")]) vA)]) (ak (bI (a5 "answer"))
 aC) aC)
 (ak (cW xX Fy)
 (ak (bt xU Q4 aC)
 (ak (bt (aJ cA (af "kind") (a5 "satisfy")) (ak (bI (a5 "goal"))
 aC) aC)
 Q3))))))))))))
def wN:List PV→ah→Option (PV×ah):=cI ["scene","steps","step"] zt
abbrev Pq:=fk [(aJ cA vA (dc [])),(aJ kB kU (aw 0))]
abbrev Pt:=aN jv [(aG (af "some") (aN jK [(af "tape"),(aN cq [(af "some")])]))]
abbrev Pu:=bg [(af "x"),(a5 "!="),(aG (af "note") (af "x"))]
abbrev SF:=bt (aJ di (af "rule") tK) (ak (bx "some" (fm Pq vA rH)) (ak (bx "note" Pt) (ak (bt (fk [(aJ kB kU (aw 0)),xU]) (ak (bx "clause" (fm (aJ bA (aG xX (aw 0)) (a5 "minimize")) (bg [(bg [(aw 0),(a5 "<="),HF])]) (bg [(bg [(aw 0),(a5 ">="),FN])]))) aC) (ak (bt (aJ bA (af "rule") (a5 "seen")) (ak (bx "clause" (aN jv [(runC false [".0","x"] (bE (aN gz [(fm (aJ kB tO (aw 0)) (af "many") (aw 1))])) (a8 "x") (λz σ=>some (true,σ)) (λk=>bK Pu k) bQ)])) aC) aC) aC)) aC))) aC
abbrev Q8:=aN jv [(runC false [".0","lap"] (bE (aN gz [kU])) (a8 "lap") (λz σ=>some (true,σ)) (λk=>bK (aN jK [(af "tape"),(aN cq [(af "steps")])]) k) bQ)]
abbrev Pw:=aG (aG (af "steps") (aG (af "premises") (mh l6 (aw 1)))) (aw 1)
abbrev Q9:=bt FE (ak (bx "premises" Q8) (ak (bt (fk [FG,(aJ bA tO (aw 0))]) (ak (bx "clause" Pw) aC) aC) aC)) aC
abbrev Br:=aN jK [(af "tape"),(aw 2)]
abbrev Ra:=bg [(bg [(aw 0),(a5 "!="),AP]),(bg [(aw 1),(a5 "!="),AQ])]
abbrev Rb:=bt FF (ak (bx "note" Br) (ak (bt (aJ bA Br (aw 1)) (ak (bx "point" (aG rH (aN jK [(af "tape"),(aN cq [rH])]))) (ak (bx "clause" Ra) aC)) aC) aC)) aC
abbrev Px:=bg [(a5 "strike"),(a5 "nogood"),(a5 "better"),(a5 "seen"),(a5 "guess")]
abbrev Rc:=bg [(aN cq [AR]),(aG Px xV)]
abbrev Bs:=aN zd [(af "tape"),(af "many")]
abbrev Py:=ak (bI (bg [(af "rule"),(af "clause"),(af "premises"),(af "note")])) aC
abbrev Pz:=gP [(a8 "clause"),(a8 "premises"),(a8 "note")]
def LD:CS:=
 (ak (iH ["many","rule"] Rc)
 (ak (cW (bg [Bs,(bg []),cU]) Pz)
 (ak Rb
 (ak Q9
 (ak SF
 Py)))))
def DC:List PV→ah→Option (PV×ah):=cI ["tape","scene","steps"] LD
abbrev PA:=bU dj (af "premises") (bg [(mh l6 (aw 1))])
abbrev SG:=bt (aJ bA (af "bend") (aw 2)) (ak (bx "clause" (fm (aJ cA (af "clause") (bg [])) (bU dj (af "clause") (jw (af "clause") cU (aw 1) cU)) (bg [(bg [(aw 0),(a5 "<"),(aw 1)])]))) aC) (ak (bt (aJ bA (af "bend") (aw 3)) (ak (bx "clause" (fm (aJ kB (aN cq [(af "clause")]) (aw 1)) (jw (af "clause") cU cU (mh l6 (aw 1))) (bg [(bg [(iG true),(a5 "="),(aw 0)])]))) aC) (ak (bt (aJ bA (af "bend") (aw 4)) (ak (bx "clause" (aN jT [(af "clause")])) aC) (ak (bt (aJ bA (af "bend") (aw 5)) (ak (bx "clause" (bU dj (af "clause") (bg [(bg [(af "many"),(a5 ">="),(aw 0)])]))) aC) (ak (bt (aJ bA (af "bend") (aw 6)) (ak (bx "premises" (aG (bg [(bU dj (af "premises") (bg [(af "number")])),(aN jT [(af "premises")]),(bU dj (af "premises") (bg [(iG true)])),PA]) kU)) aC) (ak (bt (aJ bA (af "bend") (aw 7)) (ak (bx "note" (aG (bg [(iG true),(mh l6 (aw 1)),(a5 "seen"),(bg [(aw 0)]),(bU xr (bg [(iG false)]) (af "many"))]) xV)) aC) aC) aC)) aC)) aC)) aC)) aC)
abbrev PB:=bg [(af "step"),(aN jK [(af "tape"),(aw 16)])]
def LF:CS:=
 (ak (cW PB (gP [tJ,(a8 "bend")]))
 (ak (bt (aJ hU (af "bend") (aw 2)) (ak (bI (fm (aJ bA (af "bend") (aw 0)) (aN jT [(af "step")]) (jw (af "step") cU (aw 3) cU)))
 aC) aC)
 (ak SG
 Py)))
def zw:List PV→ah→Option (PV×ah):=cI ["tape","step","many","number"] LF
abbrev Rf:=runC false [".0","one"] (bE (aG (af "step") (aw 1))) (a8 "one") (λz σ=>some (true,σ)) (λk=>bK (aG (af "one") (aw 0)) k) bQ
abbrev Rg:=bt (aJ bA (af "due") (a5 "")) (ak (lq (jF (af "steps") "list" oB [(af "step")])) (ak (bt (aJ bA (aG (af "step") (aw 0)) (a5 "seen")) (ak (cW Rf (gm (af "scene") (a5 "apart"))) (ak (lq (jF FJ "list" oB [(aG (af "step") (aw 1))])) aC)) aC) aC)) aC
abbrev vB:=bg [(a5 "nogood"),Bs,(bg []),cU]
abbrev HH:=vk [("lots",(af "lots")),("points",(af "points")),("tolds",(af "tolds")),("answers",(af "answers")),("goal",(af "goal")),("apart",cU),("seen",(lX []))]
abbrev HI:=aN zw [(af "tape"),(aN DC [(af "tape"),(af "scene"),(af "steps")]),(af "many"),(aN cq [(af "steps")])]
abbrev Rh:=ak (bx "points" (runC false [".0","point","v"] (bE (af "points")) (a8 "point") (λz σ=>some (true,σ)) (λk=>ph (bE (af "lot")) (a8 "v") (λz σ=>some (true,σ)) (bK (bU dj (af "point") (dc [(af "v")])) k)) bQ)) aC
abbrev Ri:=vk [("cells",(runC false [".0","cell"] (bE (jw (af "script") cU (aw 60) cU)) (a8 "cell") (λz σ=>some (true,σ)) (λk=>bK (aN Be [(af "cell")]) k) bQ)),("spot",(aw 0))]
abbrev Rj:=bg [(bg [tP]),(bg [(bg [(aw 0),(aw 2)])]),(bg [(bg [(aw 0),(aw 0)]),(bg [(aw 2),(aw 2)])]),(bg [(bg [(mh l6 (aw 1)),(aw 0)])])]
abbrev HJ:=aN (lz 539 yK) [(af "domains"),(af "tolds"),(af "goal"),(aw 100)]
abbrev Rk:=bt (aJ cA (fi (af "checker") 539 "fault_of" q6 [(bU dj (af "steps") (dc [(af "step")])),(aN cq [(af "steps")])]) (af "due")) fK aC
abbrev HK:=fi (af "checker") 539 "look" yL [(aN (lz 347 yU) [])]
abbrev Rl:=fk [(cB (aN uI [(aG (af "tolds") (aw 0)),(af "point")])),(cB (aN uI [(aG (af "tolds") (aw 1)),(af "point")]))]
abbrev Rm:=aG (bg [(bg [(a5 "satisfy"),cU]),(bg [(a5 "minimize"),(aw 0)]),(bg [(a5 "maximize"),(aw 0)])]) tO
abbrev AS:=aN zq [(af "tape")]
abbrev PC:=bx "due" (aN wN [(af "scene"),(af "steps"),(af "step")])
def PD:CS:=
 (ak (bx "tape" Ri)
 (ak (bx "many" (bU dj (aw 2) Br))
 (ak (bx "menu" Rj)
 (ak (bx "domains" (runC false [".0","x"] (bE xW) (a8 "x") (λz σ=>some (true,σ)) (λk=>bK (aG (af "menu") kU) k) bQ))
 (ak (bx "tolds" (dc [AS,AS]))
 (ak (bx "goal" Rm)
 (ak (bx "lots" (runC false [".0","domain"] (bE (af "domains")) (a8 "domain") (λz σ=>some (true,σ)) (λk=>bK (runC false [".0","low","high","v"] (bE (af "domain")) nC (λz σ=>some (true,σ)) (λk=>ph (bE Hv) (a8 "v") (λz σ=>some (true,σ)) (bK (af "v") k)) bQ) k) bQ))
 (ak (bx "points" (dc [(dc [])]))
 (ak (ft (bE (af "lots")) (a8 "lot") Rh)
 (ak (bx "answers" (runC false [".0","point"] (bE (af "points")) (a8 "point") Rl (λk=>bK (af "point") k) bQ))
 (ak (bx "scene" HH)
 (ak (bx "steps" (lX [vB,vB]))
 (ak (bx "checker" HJ)
 (ak (lq HK)
 (ak (ft (bE (aN gz [(aw 5)])) (a8 "lap") (ak (bx "step" HI)
 (ak PC
 (ak Rk
 (ak Rg
 aC)))))
 kN)))))))))))))))
end
section
variable{ae:bw}{w:br}{ag:aF}{n:Nat}{aa:Env}
inductive vC:List au→List String→Prop
 |nil:vC [] []
 |cons {x:String} {t:Tok} {vs:List au} {l:List String}:mR (S x)=true→vC vs l→vC (.str (S x) t::vs) (x::l)
theorem vC.rvs{h:aF}{α:Al}{l:List String}(s:vC vs l):a7 h α vs (l.map PV.str):=by
 induction s with
 |nil=>exact .nil
 |cons k _ ih=>exact .cons (.str _ _ k) ih
theorem vD(B:KBw w ag){a:aI}{vs:Array au}{l:List String}{x:String}{pos:Pos}(hl:(KK w.params).lookup a=some {cls:= .type "tuple",data:= .seq vs})(hs:vC vs.toList l)(hk:aa.kindOf (S x)=some .globalImplicit)(hd:(S x==("__debug__":Str))=false)(hg:nsIn (KK w.params) ic (S x)=some (some (.ref a))):
 SE ae w ag n aa (eval (.Name (S x) pos) aa) (λz σ=>some (.tup (l.map PV.str),σ)):=by
 refine LL (gO B hk hd hg) λh α hb hn=> ?_;have e:=B.pS _ _ hl;exact .tup (n:=0) (hb _ _ e) (λm=>by have:=hn _ m;rw[e]at this;cases this) hs.rvs
theorem Yz(B:KBw w ag){pos:Pos}(hk:aa.kindOf (S "LINEAR")=some .globalImplicit):SE ae w ag n aa (eval (.Name (S "LINEAR") pos) aa) zU:=vD B (a:=22) (vs:= #[.str (S "linear_le") 196,.str (S "linear_eq") 197,.str (S "linear_ne") 198]) (l:= ["linear_le","linear_eq","linear_ne"]) (by kernel_rfl) ((.cons (by kernel_rfl) (.cons (by kernel_rfl) (.cons (by kernel_rfl) .nil)))) hk (by kernel_rfl) (by kernel_rfl)
theorem aaV(B:KBw w ag){pos:Pos}(hk:aa.kindOf (S "ARITH")=some .globalImplicit):SE ae w ag n aa (eval (.Name (S "ARITH") pos) aa) Eh:=vD B (a:=23) (vs:= #[.str (S "times") 200,.str (S "div") 201,.str (S "mod") 202,.str (S "abs") 203,.str (S "max") 204,.str (S "min") 205]) (l:= ["times","div","mod","abs","max","min"]) (by kernel_rfl) ((.cons (by kernel_rfl) (.cons (by kernel_rfl) (.cons (by kernel_rfl) (.cons (by kernel_rfl) (.cons (by kernel_rfl) (.cons (by kernel_rfl) .nil))))))) hk (by kernel_rfl) (by kernel_rfl)
theorem Xm(B:KBw w ag){pos:Pos}(hk:aa.kindOf (S "CHOICES")=some .globalImplicit):SE ae w ag n aa (eval (.Name (S "CHOICES") pos) aa) DJ:=vD B (a:=24) (vs:= #[.str (S "element") 207,.str (S "element_of") 208,.str (S "table") 209,.str (S "inverse") 210,.str (S "circuit") 211]) (l:= ["element","element_of","table","inverse","circuit"]) (by kernel_rfl) ((.cons (by kernel_rfl) (.cons (by kernel_rfl) (.cons (by kernel_rfl) (.cons (by kernel_rfl) (.cons (by kernel_rfl) .nil)))))) hk (by kernel_rfl) (by kernel_rfl)
theorem YA(B:KBw w ag){pos:Pos}(hk:aa.kindOf (S "COUNTS")=some .globalImplicit):SE ae w ag n aa (eval (.Name (S "COUNTS") pos) aa) DW:=vD B (a:=25) (vs:= #[.str (S "all_different") 213,.str (S "count") 214,.str (S "nvalue") 215,.str (S "cardinality") 216]) (l:= ["all_different","count","nvalue","cardinality"]) (by kernel_rfl) ((.cons (by kernel_rfl) (.cons (by kernel_rfl) (.cons (by kernel_rfl) (.cons (by kernel_rfl) .nil))))) hk (by kernel_rfl) (by kernel_rfl)
theorem aaW(B:KBw w ag){pos:Pos}(hk:aa.kindOf (S "TIMES")=some .globalImplicit):SE ae w ag n aa (eval (.Name (S "TIMES") pos) aa) Ei:=vD B (a:=26) (vs:= #[.str (S "cumulative") 218,.str (S "disjunctive") 219]) (l:= ["cumulative","disjunctive"]) (by kernel_rfl) ((.cons (by kernel_rfl) (.cons (by kernel_rfl) .nil))) hk (by kernel_rfl) (by kernel_rfl)
theorem YB(B:KBw w ag){pos:Pos}(hk:aa.kindOf (S "ORDERS")=some .globalImplicit):SE ae w ag n aa (eval (.Name (S "ORDERS") pos) aa) DX:=vD B (a:=27) (vs:= #[.str (S "lex_le") 221,.str (S "lex_lt") 222,.str (S "increasing") 223,.str (S "precede") 224]) (l:= ["lex_le","lex_lt","increasing","precede"]) (by kernel_rfl) ((.cons (by kernel_rfl) (.cons (by kernel_rfl) (.cons (by kernel_rfl) (.cons (by kernel_rfl) .nil))))) hk (by kernel_rfl) (by kernel_rfl)
theorem acE(B:KBw w ag){pos:Pos}(hk:aa.kindOf (S "MOST_LISTED")=some .globalImplicit):SE ae w ag n aa (eval (.Name (S "MOST_LISTED") pos) aa) As:=LL (gO B hk (v:= .int 1000000 469)) λz z z z=> .int _ _
end
section
set_option genSizeOfSpec false
set_option genInjectivity false
structure Ct where
 kd:Str→Option kJ
 cl:Str→Bool
 mu:List String
 self:Nat
 yl:Bool
abbrev Fn:=List PV→ah→Option (PV×ah)
structure cD where
 nm:List String
 calls:List (String×Fn)
 vals:List (String×CE)
 meths:List (String×Nat×Fn)
 attrs:List (String×Nat)
 sets:List (String×Nat)
 cls:List (String×Nat)
structure At(ct:Ct)(aa:Env):Prop where
 kd:aa.kindOf=ct.kd
 eo:hF aa
 fn:aa.scope.kind= .function
 cl:∀x,ct.cl (S x)=true→aa.kindOf (S x)=some .cell∧∀c,aa.cells.lookup (S x)=some c→ @pI Nat _ aa.locals c
structure bc(ae:bw)(w:br)(ag:aF)(n:Nat)(T:cD):Prop where
 B:KBw w ag
 sys:∃o,ag.get? jt=some o
 calls:∀p∈T.calls,∃f,(∀aa pos,aa.kindOf (S p.1)=some .globalImplicit→GV ae w ag aa (.Name (S p.1) pos) f)∧Callee ae w ag f∧eh ae w ag n f p.2
 vals:∀p∈T.vals,∀aa pos,aa.kindOf (S p.1)=some .globalImplicit→SE ae w ag n aa (eval (.Name (S p.1) pos) aa) p.2
 meths:∀p∈T.meths,∃f,Ec (KK w.params) p.2.1 p.1 f∧eh ae w ag n (.ref f) p.2.2
 attrs:∀p∈T.attrs,zQ (KK w.params) p.2 p.1
 sets:∀p∈T.sets,Et (KK w.params) p.2 p.1
structure Wd where
 ae:bw
 w:br
 ag:aF
 n:Nat
 T:cD
 ok:bc ae w ag n T
noncomputable def vE:a6→Bool
 | .ListComp .. =>true
 |_=>false
structure ae2(W:Wd)(aa:Env)(es:List a6)(cs:List CE):Prop where
 ns:es.all notStar=true
 sl:∀pos,SL W.ae W.w W.ag W.n aa (spliced (g9 pos (fW es aa))) (eA cs)
 se:tZ W.ae W.w W.ag W.n aa es cs
 len:cs.length=es.length
section
variable(W:Wd)(ct:Ct)
def QM(e:a6)(c:CE):Prop:=∀aa,At ct aa→SE W.ae W.w W.ag W.n aa (eval e aa) c
structure QE(e:a6)(c:CE):Prop where
 sm:QM W ct e c
 st:notStar e=true
 fo:∀aa x,qa e aa x=pure x
 ma:∀op,C9 op e=false
 sb:∀o i,subscripted e false o i=operate [o,i] (vd o i)
 sw:vE e=false→∀t k aa,uO e t k aa=pure false
def QB(e:a6)(c:CB):Prop:=∀aa,At ct aa→SB W.ae W.w W.ag W.n aa (jS e aa (eval e aa)) c
def QG(e:a6)(c:CT):Prop:=∀aa,At ct aa→ST W.ae W.w W.ag W.n aa (assign e aa) c
def QS(s:Stmt)(c:CS):Prop:=∀aa,At ct aa→SS W.ae W.w W.ag W.n aa (exec s aa) c
def QZ(l:List Stmt)(c:CS):Prop:=∀aa,At ct aa→SS W.ae W.w W.ag W.n aa (execs l aa) c
def QL(es:List a6)(cs:List CE):Prop:=∀aa,At ct aa→ae2 W aa es cs
def QI(e:a6)(z:Bool)(c:CI):Prop:=∀aa,At ct aa→SI W.ae W.w W.ag W.n aa z (eval e aa) c∧∀x,qa e aa x=pure x
def QT(fs:List a6)(c:CB):Prop:=∀aa,At ct aa→SB W.ae W.w W.ag W.n aa (jM fs aa) c
def QP(o:Option a6)(c:CE):Prop:=∀aa,At ct aa→SE W.ae W.w W.ag W.n aa (wK (evalOpt o aa)) c
structure Cp where
 E:(ct:Ct)→Bool→(e:a6)→Option {c//QE W ct e c}
 B:(ct:Ct)→(e:a6)→{c//QB W ct e c}
 G:(ct:Ct)→(e:a6)→Option {c//QG W ct e c}
 Z:(ct:Ct)→(l:List Stmt)→{c//QZ W ct l c}
end
noncomputable def fy{α:Type}:(b:Bool)→(b=true→Option α)→Option α
 |true,k=>k rfl
 |false,_=>none
noncomputable def oo{α:Type}(f:α→Bool):(l:List α)→Option {p//p∈l∧f p=true}
 | []=>none
 |a::l=>(fy (f a) λh=>some ⟨a,mM,h⟩).or ((oo f l).map λq=>⟨q.1,kF _ q.2.1,q.2.2⟩)
noncomputable def isNm:(o:a6)→Option {_u:Unit//(∀x aa t,rj o x aa t=t)∧∀a b,C3 o a b=pure ()}
 | .Name .. =>some ⟨(),λz z z=>rfl,λz z=>rfl⟩
 |_=>none
noncomputable def ae3:(o:a6)→Option {_u:Unit//∀x aa t,rj o x aa t=t}
 | .Name .. =>some ⟨(),λz z z=>rfl⟩
 | .Attribute .. =>some ⟨(),λz z z=>rfl⟩
 | .Subscript .. =>some ⟨(),λz z z=>rfl⟩
 |_=>none
theorem Oh(hp:es.all notStar=true)(h:es.length<30)(pos:Pos):((g9 pos (fW es aa)).all (λx=> !x.1)&&(backToKw pos (Ds [] aa)).all (λx=>x.1.isSome)&&decide (es.length+([]:List Keyword).length+(if([]:List Keyword).isEmpty then 0 else 1)<30))=true:=by
 have b:(g9 pos (fW es aa)).all (λx=> !x.1)=true:=by
  rw[List.all_eq_not_any_not];simpa using lO hp pos aa
 rw[b];exact bN h
theorem lC{a b:Bool}{G:Prop}(h:(a&&b)=true)(k:a=true→b=true→G):G:=let h:=h8.mp h;k h.1 h.2
def SH:Bool→gq
 |true=>Hu
 |false=>hU
def PE:a6→Bool
 | .Call (.Name y _) _ _ _=>y==S "range"
 |_=>false
def SJ:Bool→gq
 |true=>Ho
 |false=>di
def Rn:Bool→gq
 |true=>sO
 |false=>ej
def HL:Bool→ah→Nat→aO×ah→Option (PV×ah)
 |true=>xq
 |false=>bQ
section
variable{ae:bw}{w:br}{ag:aF}{n:Nat}
theorem acF:∀b,fq ae w ag n .Lt (SH b)
 |true=>aaS
 |false=>abS
theorem acG:∀b,fq ae w ag n .In (SJ b)
 |true=>aaA
 |false=>abR
theorem aaX:∀b,fq ae w ag n .NotIn (Rn b)
 |true=>Wb
 |false=>WK
theorem Ai:∀m,vj ae w ag (HL m)
 |true=>Yd
 |false=>aat
end
section
variable{W:Wd}{ct:Ct}{aa:Env}
noncomputable def qE(ct:Ct)(y:Str):Bool:=decide (ct.kd y=some .local)||ct.cl y
noncomputable def glob(ct:Ct)(y:Str):Bool:=decide (ct.kd y=some .globalImplicit)
theorem AU{x:String}(K:At ct aa)(h:qE ct (S x)=true):SN W.ae W.w W.ag aa x:=(Bool.or_eq_true_iff.mp h).elim (λh=>XS ((congrFun K.kd _).trans (fQ h))) λh=>Z4 (K.cl x h).1 (K.cl x h).2
theorem lZ{y:Str}{k:kJ}(K:At ct aa)(h:decide (ct.kd y=some k)=true):aa.kindOf y=some k:=(congrFun K.kd _).trans (fQ h)
abbrev Nm(y:Str):={x:String//S x=y}
def qT(W:Wd)(y:Str):Option (Nm y):=(oo (λx=>S x==y) W.T.nm).map λp=>⟨p.1,eF.mp p.2.2⟩
theorem Ro{y:Str}{x:String}{p:Pos}(hx:S x=y)(k:kJ)(hk:k= .local∨k= .cell)(h:(decide (ct.kd y=some k)&& !(y==S "__debug__"))=true):QM W ct (.Name y p) (af x):=λaa K=>lC h λh h2=>by
 subst hx;have h2:(S x==S "__debug__")=false:=by simpa using h2
 rcases hk with rfl|rfl
 ·exact XQ (lZ K h) h2
 ·exact ZX (lZ K h) h2
theorem ae4{y:Str}{p:Pos}{v:String×CE}(m:v∈W.T.vals)(e:(S v.1==y)=true)(h:glob ct y=true):QM W ct (.Name y p) v.2:=λaa K=>by
 have k:=lZ K h;rw[←eF.mp e]at k⊢;exact W.ok.vals v m aa p k
theorem ae5{y:Str}{x:String}{p:Pos}(hx:S x=y)(h:mR (S x)=true):QM W ct (.Constant (.str y) k p) (a5 x):=λaa K=>hx▸abz h
theorem IG:QL W ct [] []:=λz z=>⟨rfl,λz=>abx,trivial,rfl⟩
theorem v8{e:a6}{c:CE}(h:QE W ct e c)(h2:QL W ct es cs):QL W ct (e::es) (c::cs):=λaa K=>
 have I:=h2 aa K
 ⟨h8.mpr ⟨h.st,I.ns⟩,λpos=>ZU (h.sm aa K) (I.sl pos) (oR h.st es aa),⟨h.sm aa K,I.se⟩,bV zZ I.len⟩
theorem HM{p:Pos}(h:QL W ct es cs)(hz:decide (es.length≤1000)=true):QM W ct (.Tuple es k p) (bg cs):=λaa K=>have L:=h aa K;XR (L.sl _) (L.len▸fQ hz)
noncomputable def ae6:Bool→List CE→CE
 |true=>lX
 |false=>dc
theorem ae7{p:Pos}(h:QL W ct es cs)(hz:decide (es.length≤1000)=true):∀m,QM W ct (.List es p) (ae6 m cs)
 |true=>λaa K=>have L:=h aa K;Z0 (L.sl _) (L.len▸fQ hz)
 |false=>λaa K=>have L:=h aa K;ZZ (L.sl _) (L.len▸fQ hz)
theorem adA{y:Str}{p pos:Pos}(hg:glob ct y=true)(h:QL W ct es cs){g:String×Fn}(m:g∈W.T.calls)(e:(S g.1==y)=true):QM W ct (.Call (.Name y p) es [] pos) (aN g.2 cs):=λaa K=>by
 have L:=h aa K;have k:=lZ K hg;rw[←eF.mp e]at k⊢;exact cY (W.ok.calls g m) λf h1 h2 h3=>Z6 (h1 aa p k) h2 L.ns h3 (L.sl _)
theorem ae8{y t:Str}{e:a6}{c:CE}{p pos:Pos}(hg:glob ct y=true){u:String}(hm:u∈ ["int","bool","tuple"])(hu:(S u==t)=true)(hh:(y==S "isinstance"&&glob ct t)=true)(h:QE W ct e c):QM W ct (.Call (.Name y p) [e,.Name t p2] [] pos) (gN u c):=λaa K=>
 lC hh λh1 ht=>by
  have hy:=lZ K hg;have ht:=lZ K ht;rw[eF.mp h1]at hy⊢;rw[←eF.mp hu]at ht⊢;simp only[cG,ff,fg]at hm;rcases hm with q|q|q<;>(subst q;exact ace (gB W.ok.B hy) (gB W.ok.B ht) h.st (h.sm aa K))
theorem qSS{y y2:Str}{e:a6}{c:CE}{p pos:Pos}(hg:glob ct y=true)(hh:(y2==S "set"&&glob ct y2)=true)(h:QE W ct e c)(h1:(y==S "sorted")=true):QM W ct (.Call (.Name y p) [.Call (.Name y2 p2) [e] [] tH] [] pos) (sI c):=λaa K=>
 lC hh λh2 ht=>by
  have hy:=lZ K hg;have ht:=lZ K ht;rw[eF.mp h1]at hy⊢;rw[eF.mp h2]at ht⊢;exact Wj (gB W.ok.B hy) (gB W.ok.B ht) h.st (h.sm aa K)
theorem qLS{y y2:Str}{e:a6}{c:CE}{p pos:Pos}(hg:glob ct y=true)(hh:(y2==S "set"&&glob ct y2)=true)(h:QE W ct e c)(h1:(y==S "len")=true):QM W ct (.Call (.Name y p) [.Call (.Name y2 p2) [e] [] tH] [] pos) (Ag c):=λaa K=>
 lC hh λh2 ht=>by
  have hy:=lZ K hg;have ht:=lZ K ht;rw[eF.mp h1]at hy⊢;rw[eF.mp h2]at ht⊢;exact Xf (gB W.ok.B hy) (gB W.ok.B ht) h.st (h.sm aa K)
theorem qDZ{y y2:Str}{c1:CE}{p pos:Pos}(hg:glob ct y=true)(hh:(y==S "dict"&&y2==S "zip"&&glob ct y2)=true)(h:QL W ct [e1,e2] [c1,c2]):QM W ct (.Call (.Name y p) [.Call (.Name y2 p2) [e1,e2] [] tH] [] pos) (zT c1 c2):=λaa K=>
 lC hh λh2 ht=>lC h2 λh1 h2=>by
  have hy:=lZ K hg;have ht:=lZ K ht;rw[eF.mp h1]at hy⊢;rw[eF.mp h2]at ht⊢;have L:=h aa K;exact Wk W.ok.sys (gB W.ok.B hy) (gB W.ok.B ht) L.ns (L.sl _)
theorem qIZ{y:Str}{c1:CE}{p pos:Pos}(hh:(y==S "zip"&&glob ct y)=true)(h:QL W ct [e1,e2] [c1,c2]):QI W ct (.Call (.Name y p) [e1,e2] [] pos) true (oC c1 c2):=λaa K=>
 lC hh λh2 ht=>by
  have ht:=lZ K ht;rw[eF.mp h2]at ht⊢;have L:=h aa K;exact⟨acr (gB W.ok.B ht) L.ns (L.sl _),λz=>rfl⟩
theorem qIV{e:a6}{c:CE}(h:QE W ct e c):QI W ct e false (bE c):=λaa K=>⟨acn (h.sm aa K),h.fo aa⟩
def IH:List (String×String×Fn):= [("append","list",oB),("extend","list",Bf),("get","dict",pP)]
theorem qBM{o:a6}{y:Str}{c:CE}{p pos:Pos}(h:QE W ct o c)(hl:QL W ct es cs)(hb:∀x aa t,rj o x aa t=t)(hh:(decide (es.length<30)&&p.endLine==pos.line)=true){b:String×String×Fn}(hm:b∈IH)(e:(S b.1==y)=true):QM W ct (.Call (.Attribute o y p) es [] pos) (jF c b.2.1 b.2.2 cs):=λaa K=>
 lC hh λh1 h2=>by
  have L:=hl aa K;have fw:=Oh (aa:=aa) L.ns (fQ h1) pos;rw[←eF.mp e];simp only[IH,cG,ff,fg]at hm;rcases hm with q|q|q<;>rw[q]
  ·exact EV F.plainAttrs_list F.slot_list_append (by kernel_rfl) (h.sm aa K) L.ns acj (L.sl _) (hb _ _ _) fw h2
  ·exact EV F.plainAttrs_list F.slot_list_extend (by kernel_rfl) (h.sm aa K) L.ns ach (L.sl _) (hb _ _ _) fw h2
  ·exact EV F.plainAttrs_dict F.slot_dict_get (by kernel_rfl) (h.sm aa K) L.ns ack (L.sl _) (hb _ _ _) fw h2
theorem qMe{o:a6}{y:Str}{c:CE}{p pos:Pos}{C:Nat}(h:QE W ct o c)(hl:QL W ct es cs)(hb:∀x aa t,rj o x aa t=t)(hh:(decide (es.length<30)&&p.endLine==pos.line)=true){g:String×Nat×Fn}(m:g∈W.T.meths)(e:(S g.1==y&&g.2.1==C)=true):QM W ct (.Call (.Attribute o y p) es [] pos) (fi c C g.1 g.2.2 cs):=λaa K=>
 lC hh λh1 h2=>lC e λg1 g2=>aT (W.ok.meths g m) λf h4 h5=>by
  have L:=hl aa K;have fw:methodCallForm (es.length+([]:List Keyword).length) (g9 pos (fW es aa)) (backToKw pos (Ds [] aa))=true:=Oh (aa:=aa) L.ns (fQ h1) pos;rw[←eF.mp g1,←eF.mp g2];refine Z7 W.ok.B h4 (h.sm aa K) L.ns h5 L.sl (pl:=do return(←importBound o aa).getD true) ?_;show(rj o (S g.1) aa (eval o aa)>>=λov=>ig p.atName>>=λz=>methodCall o (S g.1) p pos aa ov _ _ _)=_;rw[hb];unfold methodCall;rw[fw];unfold methodCallPos;rw[h2];rfl
theorem qAt{o:a6}{y:Str}{c:CE}{p:Pos}{C:Nat}(h:QE W ct o c)(h0:(∀x aa t,rj o x aa t=t)∧∀a b,C3 o a b=pure ()){g:String×Nat}(m:g∈W.T.attrs)(e:(S g.1==y&&g.2==C)=true):QM W ct (.Attribute o y p) (ij c C g.1):=λaa K=>lC e λg1 g2=>by
 rw[←eF.mp g1,←eF.mp g2];exact X9 W.ok.B (W.ok.attrs g m) (h.sm aa K) (h0.1 _ _ _) h0.2
theorem qTA{o:a6}{y:Str}{c:CE}{p:Pos}{C:Nat}(h:QE W ct o c){g:String×Nat}(m:g∈W.T.sets)(e:(S g.1==y&&g.2==C)=true):QG W ct (.Attribute o y p) (jU c C g.1):=λaa K=>lC e λg1 g2=>by
 rw[←eF.mp g1,←eF.mp g2];exact aan W.ok.B (W.ok.sets g m) (h.sm aa K)
noncomputable def ae9:a6→Nat
 | .List .. =>0
 | .Tuple .. =>1
 |_=>2
noncomputable def afa:Nat→{f:lF//oj W.ae W.w W.ag W.n .Mult f}
 |0=>⟨AH,Yi⟩
 |1=>⟨xr,Yj⟩
 |_=>⟨l7,aad⟩
def afb(l:a6):(op:Operator)→Option {f:lF//oj W.ae W.w W.ag W.n op f}
 | .Add=>some ⟨dj,aaf⟩
 | .Sub=>some ⟨iM,aac⟩
 | .Mod=>some ⟨rG,aae⟩
 | .Mult=>some (afa (ae9 l))
 |_=>none
def HN(b:Bool)(e:a6):(op:CmpOp)→Option {f:gq//fq W.ae W.w W.ag W.n op f}
 | .Eq=>some ⟨bA,abP⟩
 | .NotEq=>some ⟨cA,abQ⟩
 | .Lt=>some ⟨SH b,acF b⟩
 | .LtE=>some ⟨kR,abT⟩
 | .Gt=>some ⟨kB,cmp_gt⟩
 | .GtE=>some ⟨t8,abU⟩
 | .Is=>some ⟨Ab,abV⟩
 | .In=>some ⟨SJ (PE e),acG _⟩
 | .NotIn=>some ⟨Rn (PE e),aaX _⟩
 |_=>none
def QC(W:Wd)(ct:Ct)(e:a6)(c:CB):Prop:=∀aa,At ct aa→SE W.ae W.w W.ag W.n aa (eval e aa) (cJ c)∧∀t,SB W.ae W.w W.ag W.n aa (jS e aa t) c
theorem qC1{l a:a6}{c d:CE}{p:Pos}(hf:fq W.ae W.w W.ag W.n op f)(h1:QE W ct l c)(h2:QE W ct a d):QC W ct (.Compare l [op] [a] p) (aJ f c d):=λaa K=>
 ⟨abG hf (h1.sm aa K) (h2.sm aa K) (h2.ma _),λt=>abF hf (h1.sm aa K) (h2.sm aa K) (h2.ma _)⟩
theorem qC2{l a b:a6}{SK:CmpOp}{g:gq}{c d e:CE}{p:Pos}(hf:fq W.ae W.w W.ag W.n op f)(hg:fq W.ae W.w W.ag W.n SK g)(h1:QE W ct l c)(h2:QE W ct a d)(h3:QE W ct b e):QC W ct (.Compare l [op,SK] [a,b] p) (pq f g c d e):=λaa K=>
 ⟨Z9 hf hg (h1.sm aa K) (h2.sm aa K) (h3.sm aa K) (h3.ma _),λt=>Z8 hf hg (h1.sm aa K) (h2.sm aa K) (h3.sm aa K) (h3.ma _)⟩
noncomputable def Rp:BoolOp→List CB→CB
 | .And=>fk
 | .Or=>dh
theorem qBo{e:a6}{c:CE}{p:Pos}(h:QL W ct (e::es) (c::cs)):∀op,QM W ct (.BoolOp op (e::es) p) (cJ (Rp op ((c::cs).map cB)))
 | .And=>λaa K=>abL (h aa K).se
 | .Or=>λaa K=>adh (h aa K).se
theorem qBB{f:a6→CB}{p:Pos}(h:∀e,QB W ct e (f e))(op:BoolOp):QB W ct (.BoolOp op es p) (Rp op (es.map f)):=λaa K=>by
 have I:tY W.ae W.w W.ag W.n aa es (es.map f):=by
  induction es with
  |nil=>trivial
  |cons e es ih=>exact⟨h e aa K,ih⟩
 cases op
 ·exact abK I
 ·exact adg I
end
end
variable{ts:List a6}
section
set_option genSizeOfSpec false
set_option genInjectivity false
section
variable{W:Wd}{ct:Ct}{aa:Env}
theorem afc{v s:a6}{c d:CE}{p:Pos}(h1:QE W ct v c)(h2:QE W ct s d):QM W ct (.Subscript v s p) (aG c d):=λaa K=>abW h2.sb (h1.sm aa K) (h2.sm aa K)
theorem qSl{v:a6}{o o1 o2:Option a6}{c c1 c3:CE}{p:Pos}(h:QE W ct v c)(h1:QP W ct o c1)(h2:QP W ct o1 c2)(h3:QP W ct o2 c3):QM W ct (.Subscript v (.Slice o o1 o2 p2) p) (jw c c1 c2 c3):=λaa K=>Yh (h.sm aa K) (h1 aa K) (h2 aa K) (h3 aa K)
structure QD(W:Wd)(ct:Ct)(ks:List (Option a6))(vs:List a6)(l:List (String×Nat×Pos))(cs:List (String×CE)):Prop where
 sd:∀aa,At ct aa→BM W.ae W.w W.ag W.n aa l vs cs
 sh:∀aa pos,(evalEachOpt ks aa).zip ((evalEach vs aa).map λv=>do let x←v;ig pos;pure x)=(sX aa pos l vs).map λp=>(some p.1,p.2)
 len:∀aa pos,(sX aa pos l vs).length=cs.length
theorem qdN:QD W ct [] [] [] []:=⟨λz z=>trivial,λz z=>rfl,λz z=>rfl⟩
theorem qdC{y:Str}{x:String}{p:Pos}{ks:List (Option a6)}{v:a6}{vs:List a6}{l:List (String×Nat×Pos)}{c:CE}{cs:List (String×CE)}(hx:S x=y)(h0:mR (S x)=true)(h:QE W ct v c)(h2:QD W ct ks vs l cs):QD W ct (some (.Constant (.str y) k p)::ks) (v::vs) ((x,k,p)::l) ((x,c)::cs):=
 ⟨λaa K=>⟨⟨rfl,h0⟩,h.sm aa K,h2.sd aa K⟩,λaa pos=>hx▸bV (List.cons _) (h2.sh aa pos),λaa pos=>bV zZ (h2.len aa pos)⟩
theorem afd{ks:List (Option a6)}{vs:List a6}{l:List (String×Nat×Pos)}{cs:List (String×CE)}{p:Pos}(h:QD W ct ks vs l cs)(hh:(!cs.isEmpty&&decide (cs.length≤15)&&decide (cs.map (·.1)).Nodup)=true):QM W ct (.Dict ks vs p) (vk cs):=λaa K=>
 lC hh λh1 h3=>lC h1 λh1 h2=>aax W.ok.sys (h.sd aa K) (h.sh aa p) (λq=>by
  have:=h.len aa p;rw[q]at this;cases cs with
  |nil=>exact cL h1
  |cons=>exact yV this) (h.len aa p▸fQ h2) (fQ h3)
theorem afe{x:a6}{c:CB}{p:Pos}(h:QB W ct x c):QB W ct (.UnaryOp .Not x p) (bY c):=λaa K=>abI (h aa K)
theorem qV{e:a6}{c:CE}(h:QE W ct e c)(he:∀aa t,jS e aa t=(do let v←t;ig e.pos;holding [v] (truthy v))):QB W ct e (cB c):=λaa K=>abH (h.sm aa K) (he aa)
structure ym(W:Wd)(ct:Ct)(es:List a6)(fs:List CT):Prop where
 st:∀aa,At ct aa→vR W.ae W.w W.ag W.n aa ((o7 es aa).map (·.2)) fs
 ns:∀aa,(o7 es aa).findIdx? (·.1)=none
theorem qgN:ym W ct [] []:=⟨λz z=>trivial,λz=>rfl⟩
theorem qgC{e:a6}{f:CT}(h:QG W ct e f)(q:∀aa,o7 (e::es) aa=(false,assign e aa)::o7 es aa)(h2:ym W ct es fs):ym W ct (e::es) (f::fs):=
 ⟨λaa K=>by rw[q];exact⟨h aa K,h2.st aa K⟩,λaa=>by rw[q,List.findIdx?_cons,h2.ns];rfl⟩
theorem qTT{p:Pos}(h:ym W ct es fs):QG W ct (.Tuple es k p) (gP fs):=λaa K=>X8 K.eo (h.st aa K) (h.ns aa)
theorem qTN{y:Str}{x:String}{p:Pos}(hx:S x=y)(h:qE ct y=true):QG W ct (.Name y p) (a8 x):=λaa K=>by
 subst hx;exact aak (AU K h)
theorem qTS{o i:a6}{c d:CE}{p:Pos}(h:QE W ct o c)(h2:QE W ct i d):QG W ct (.Subscript o i p) (gm c d):=λaa K=>acf (h.sm aa K) (h2.sm aa K)
noncomputable def jD(ct:Ct)(scope:Scope):Ct:={ct with kd:=λy=>(scope.names.lookup y).map λk=>if(k== .free&&ct.kd y==some .cell)=true then .cell else k,cl:=λy=>decide (scope.names.lookup y=some .cell)}
theorem oq(K:At ct aa)(O:ll scope aa tg)(C:aI):At (jD ct scope) (dZ scope C aa):=by
 have kd:(dZ scope C aa).kindOf=(jD ct scope).kd:=funext λy=>C0.trans (by rw[K.fn,K.kd];simp only[Bool.and_assoc];rfl);exact⟨kd,Ls O,O.kind,λx hx=>by
  have hs:scope.names.lookup (S x)=some .cell:=fQ hx;have hk:(dZ scope C aa).kindOf (S x)=some .cell:=by
   rw[kd];show(scope.names.lookup (S x)).map _=_;rw[hs];rfl
  refine⟨hk,λc e=> ?_⟩;have e':(ju (C+1) scope.names (gu aa scope.names [])).lookup (S x)=some c:=e;rw[sk,uK]at e';refine nG (cellsFrom_some scope.names (C+1) [] (x:=S x) (.inl hs)) λc' SM=> ?_;rw[SM]at e';exact cj e' λz=>(yT _ _ _ _ _ SM).elim (λh=>aQ h) λh=>z▸h⟩
structure QK(W:Wd)(ct:Ct)(cN:a6)(gens:List wD)(scope:Scope)(p:Pos)(c:CE):Prop where
 se:QM W ct (.ListComp cN gens scope p) c
 ss:∀aa,At ct aa→∀x py tG,SN W.ae W.w W.ag aa x→uO (.ListComp cN gens scope p) (some (.Name (S x) py)) tG.line aa=pure true→SS W.ae W.w W.ag W.n aa (exec (.Assign [.Name (S x) py] (.ListComp cN gens scope p) tG) aa) (bx x c)
section
variable{t i cN t2 i2:a6}{fs yn:List a6}{a a2:Int}{scope:Scope}{p:Pos}{z:Bool}{it lJ:CI}{tg:List String}{g g2:CT}{b b2:CB}{e:CE}(m:Bool)(ha:(xb scope ct.kd tg&&a==0)=true)(hi:QI W ct i z it)(hg:QG W (jD ct scope) t g)(hb:QT W (jD ct scope) fs b)
include ha hi hg hb
theorem qK1(hz:(!z||ny t)=true)(he:QE W (jD ct scope) cN e):QK W ct cN [⟨t,i,fs,a⟩] scope p (runC z tg it g b (λk=>bK e k) (HL m)):=by
 refine cM (h8.mp ha) λhO ha=> ?_;obtain rfl:=eF.mp ha;have kC:z=true→ny t=true:=λq=>by rw[q]at hz;exact hz
 exact⟨λaa K=>have O:ll scope aa tg:=wO (K.kd▸hO);Oc (Ai m) K.eo kC O (hi aa K).1 (λC=>hg _ (oq K O C)) (λC=>hb _ (oq K O C)) (λC D k=>Ef (he.sm _ (oq K O C))) (λI D cS=>OT I D cS) (hi aa K).2,
  λaa K x py tG hn pX=>have O:ll scope aa tg:=wO (K.kd▸hO);Lu (Ai m) K.eo kC hn O (hi aa K).1 (λC=>hg _ (oq K O C)) (λC=>hb _ (oq K O C)) (λC D k=>Ef (he.sm _ (oq K O C))) (λI D cS=>OT I D cS) (hi aa K).2 pX⟩
theorem qK2(hz:(!z&&a2==0)=true){z2:Bool}(oJ:(!z2)=true)(j0:QI W (jD ct scope) i2 z2 lJ)(hg2:QG W (jD ct scope) t2 g2)(qU:QT W (jD ct scope) yn b2)(he:QE W (jD ct scope) cN e):
 QK W ct cN [⟨t,i,fs,a⟩,⟨t2,i2,yn,a2⟩] scope p (runC false tg it g b (λk=>ph lJ g2 b2 (bK e k)) (HL m)):=by
 refine cM (h8.mp ha) λhO ha=> ?_;obtain⟨hz,ha2⟩:=h8.mp hz;obtain rfl:=eF.mp ha;obtain rfl:=eF.mp ha2;cases z
 ·cases z2
  ·have A:=λaa K C D k=>have O:ll scope aa tg:=wO (At.kd (aa:=aa) K▸hO);have KI:=oq K O C
    Ye (gens:= [⟨t,i,fs,0⟩,⟨t2,i2,yn,0⟩]) (scope:=scope) (pos:=p) (D:=D) (k:=k) KI.eo rfl (j0 _ KI).1 (hg2 _ KI) (qU _ KI) (Ef (he.sm _ KI)) (λI=>aco I D _) (j0 _ KI).2
   exact⟨λaa K=>have O:ll scope aa tg:=wO (K.kd▸hO);Oc (Ai m) K.eo (λt=>cL t) O (hi aa K).1 (λC=>hg _ (oq K O C)) (λC=>hb _ (oq K O C)) (A aa K) (λI D cS=>Ob I D cS) (hi aa K).2,
    λaa K x py tG hn pX=>have O:ll scope aa tg:=wO (K.kd▸hO);Lu (Ai m) K.eo (λt=>cL t) hn O (hi aa K).1 (λC=>hg _ (oq K O C)) (λC=>hb _ (oq K O C)) (A aa K) (λI D cS=>Ob I D cS) (hi aa K).2 pX⟩
  ·exact cL oJ
 ·exact cL hz
end
theorem tQ{t v:a6}{c:CE}{f:CT}{p:Pos}(hv:QM W ct v c)(ht:QG W ct t f)(hs:∀k aa,Dc [t] v k aa=pure false)(he:∀aa,(o7 [t] aa).map (·.2)= [assign t aa])(hw:∀aa,At ct aa→y8 [t] v aa=pure none):QS W ct (.Assign [t] v p) (cW c f):=λaa K=>WN (hv aa K) (ht aa K) (hs _ _) (hw aa K) (he aa)
theorem aff{y:Str}{x:String}{v:a6}{c:CE}{p:Pos}(hx:S x=y)(h0:qE ct y=true)(hl:vE v=false)(h:QE W ct v c):QS W ct (.Assign [.Name y p] v p2) (bx x c):=λaa K=>by
 subst hx;exact NZ (AU K h0) (h.sm aa K) (h.sw hl _ _ _)
theorem adB{y:Str}{x:String}{c:CE}{p:Pos}(hx:S x=y)(h0:qE ct y=true)(h:QK W ct cN gens scope p1 c):QS W ct (.Assign [.Name y p] (.ListComp cN gens scope p1) p2) (bx x c):=λaa K=>by
 subst hx;have N:SN W.ae W.w W.ag aa x:=AU K h0;have e:uO (.ListComp cN gens scope p1) (some (.Name (S x) p)) p2.line aa=pure (aa.blockKind== .function&&aa.kindOf (S x)==some .local&&p.line==p1.line&& !(scope.names.any λ(n,k)=>n==S x&&(k== .local||k== .cell))):=rfl;generalize(aa.blockKind== .function&&aa.kindOf (S x)==some .local&&p.line==p1.line&& !(scope.names.any λ(n,k)=>n==S x&&(k== .local||k== .cell)))=b at e;cases b with
 |true=>exact h.ss aa K x p p2 N e
 |false=>exact NZ N (h.se aa K) e
noncomputable def xc(ct:Ct)(ts:List a6):List Str:=ts.filterMap λ
 | .Name id pos=>if ct.kd id==some .local&&pos.line==(ts.head?.map (·.pos.line)).getD 0 then some id else none
 |_=>none
def v9(ct:Ct)(ts vs:List a6):Option (Option (List Str)):=
 if(!(ts.length==2||ts.length==3)||vs.length !=ts.length)=true then some none
 else if((xc ct ts).length !=ts.length||(xc ct ts).eraseDups.length !=(xc ct ts).length)=true then some none
 else if vs.all (foldedForSure 8)=true then some none
 else if vs.all (constantsAlone 8)=true then none
 else some (some (xc ct ts))
theorem acH{vs:List a6}{o:Option (List Str)}{b c:Bool}{L:List Str}{X:Sem (Option (List Str))}(h:v9 ct ts vs=some o)(hb:b=(!(ts.length==2||ts.length==3)||vs.length !=ts.length))(hc:c=false)(hL:L=xc ct ts):
 (if b=true then pure none else if c=true then pure none else if(L.length !=ts.length||L.eraseDups.length !=L.length)=true then pure none else if vs.all (foldedForSure 8)=true then pure none else if vs.all (constantsAlone 8)=true then X else pure (some L))=(pure o:Sem (Option (List Str))):=by
 unfold v9 at h;rw[hc,hL,aS wj];rw[←hb]at h;have go:∀{p:Prop} [Decidable p] {a a':Option (Option (List Str))} {t t':Sem (Option (List Str))},(if p then a else a')=some o→(a=some o→t=pure o)→(a'=some o→t'=pure o)→(if p then t else t')=pure o:=λ{p} _ {a a' t t'} e k k'=>by
  by_cases q:p
  ·rw[aP q]at e⊢;exact k e
  ·rw[aS q]at e⊢;exact k' e
 have nn:some none=some o→(pure none:Sem (Option (List Str)))=pure o:=λe=>cj e λz=>z▸rfl;exact go h nn λh=>go h nn λh=>go h nn λh=>go h (λe=>aQ e) λh=>cj h λz=>z▸rfl
theorem Oi{vs:List a6}{o:Option (List Str)}{k':Nat}{p:Pos}(K:At ct aa)(hs:vs.all notStar=true)(h:v9 ct ts vs=some o):y8 [.Tuple ts k p] (.Tuple vs k' p') aa=pure o:=by
 have hb:(aa.blockKind != .function)=false:=by unfold Env.blockKind;rw[K.fn];rfl
 have ha:(vs.any λ| .Starred .. =>true|_=>false)=false:=by
  rw[yO];intro e he;have:=fU.mp hs e he;intro q;split at q
  ·exact cL this
  ·exact cL q
 exact acH h (by rw[hb,KG]) ha (by rw[K.kd];rfl)
theorem adC{vs:List a6}{f:CT}{k':Nat}{p:Pos}(h:QL W ct vs cs)(hz:decide (vs.length≤1000)=true)(hw:v9 ct ts vs=some none)(ht:QG W ct (.Tuple ts k p) f):QS W ct (.Assign [.Tuple ts k p] (.Tuple vs k' p') p2) (cW (bg cs) f):=
 tQ (HM h hz) ht (λz z=>rfl) (λz=>rfl) λaa K=>Oi K (h aa K).ns hw
theorem adD{vs:List a6}{ys:List Str}{xs:List String}{k':Nat}{p:Pos}(h:QL W ct vs cs)(hz:decide (vs.length≤1000)=true)(hw:v9 ct ts vs=some (some ys))(hx:xs.map S=ys∧∀x∈xs,qE ct (S x)=true):QS W ct (.Assign [.Tuple ts k p] (.Tuple vs k' p') p2) (iH xs (bg cs)):=λaa K=>
 aal K.eo (λx m=>AU K (hx.2 x m)) (HM h hz aa K) rfl (hx.1▸Oi K (h aa K).ns hw)
end
section
section
variable{W:Wd}(r:Cp W)(ct:Ct)
noncomputable def lE:List Bool→(es:List a6)→Option {cs//QL W ct es cs}
 |_,[]=>some ⟨[],IG⟩
 |ms,e::es=>(r.E ct (ms.headD false) e).bind λc=>(lE ms.tail es).map λcs=>⟨c.1::cs.1,v8 c.2 cs.2⟩
def FQ:a6→Option Nat
 | .Name y _=>if y==S "self" then some ct.self else(oo (λq=>S q.1==y) W.T.cls).map (·.1.2)
 | .Attribute _ y _=>(oo (λq=>S q.1==y) W.T.cls).map (·.1.2)
 |_=>none
def eName(y:Str)(p:Pos):Option {c//QM W ct (.Name y p) c}:=
 (fy (decide (ct.kd y=some .local)&& !(y==S "__debug__")) λh=>(qT W y).map λx=>⟨af x.1,Ro x.2 _ (.inl rfl) h⟩).or
 ((fy (decide (ct.kd y=some .cell)&& !(y==S "__debug__")) λh=>(qT W y).map λx=>⟨af x.1,Ro x.2 _ (.inr rfl) h⟩).or
 (fy (glob ct y) λh=>(oo (λq=>S q.1==y) W.T.vals).map λv=>⟨v.1.2,ae4 v.2.1 v.2.2 h⟩))
def acI(k:Nat)(p:Pos):(c:Const)→Option {e//QM W ct (.Constant c k p) e}
 | .none=>some ⟨cU,λz z=>ZW⟩
 | .bool b=>some ⟨iG b,λz z=>ZV⟩
 | .int i=>some ⟨aw i,λz z=>aby⟩
 | .str y=>(qT W y).bind λx=>fy (mR (S x.1)) λh=>some ⟨a5 x.1,ae5 x.2 h⟩
 |_=>none
def cIs(y:Str)(p pos:Pos)(hg:glob ct y=true):(es:List a6)→Option {c//QM W ct (.Call (.Name y p) es [] pos) c}
 | [e,.Name t _]=>fy (y==S "isinstance"&&glob ct t) λh=>(oo (λu=>S u==t) ["int","bool","tuple"]).bind λu=>(r.E ct false e).map λc=>⟨gN u.1 c.1,ae8 hg u.2.1 u.2.2 h c.2⟩
 |_=>none
def adE(y:Str)(p pos:Pos)(hg:glob ct y=true):(es:List a6)→Option {c//QM W ct (.Call (.Name y p) es [] pos) c}
 | [.Call (.Name y2 _) [e] [] _]=>fy (y2==S "set"&&glob ct y2) λh=>(r.E ct false e).bind λc=>(fy (y==S "sorted") λh1=>some ⟨sI c.1,qSS hg h c.2 h1⟩).or (fy (y==S "len") λh1=>some ⟨Ag c.1,qLS hg h c.2 h1⟩)
 | [.Call (.Name y2 _) [e1,e2] [] _]=>fy (y==S "dict"&&y2==S "zip"&&glob ct y2) λh=>(r.E ct false e1).bind λc=>(r.E ct false e2).map λd=>⟨zT c.1 d.1,qDZ hg h (v8 c.2 (v8 d.2 IG))⟩
 |_=>none
def adF(y:Str)(p pos:Pos)(es:List a6):Option {c//QM W ct (.Call (.Name y p) es [] pos) c}:=fy (glob ct y) λhg=>
 (cIs r ct y p pos hg es).or ((adE r ct y p pos hg es).or ((lE r ct [] es).bind λcs=>(oo (λq=>S q.1==y) W.T.calls).map λg=>⟨aN g.1.2 cs.1,adA hg cs.2 g.2.1 g.2.2⟩))
def adG(o:a6)(y:Str)(ap pos:Pos)(es:List a6):Option {c//QM W ct (.Call (.Attribute o y ap) es [] pos) c}:=
 (ae3 o).bind λb=>(r.E ct false o).bind λc=>(lE r ct [] es).bind λcs=>fy (decide (es.length<30)&&ap.endLine==pos.line) λhh=>
  ((oo (λq=>S q.1==y) IH).map λg=>⟨jF c.1 g.1.2.1 g.1.2.2 cs.1,qBM c.2 cs.2 b.2 hh g.2.1 g.2.2⟩).or
  ((FQ (W:=W) ct o).bind λC=>(oo (λq=>S q.1==y&&q.2.1==C) W.T.meths).map λg=>⟨fi c.1 C g.1.1 g.1.2.2 cs.1,qMe c.2 cs.2 b.2 hh g.2.1 g.2.2⟩)
noncomputable def part:(o:Option a6)→Option {c//QP W ct o c}
 |none=>some ⟨cU,λz z=>Ve⟩
 |some e=>(r.E ct false e).map λc=>⟨c.1,λaa K=>aay (c.2.sm aa K)⟩
def adH(v:a6)(p:Pos):(s:a6)→Option {c//QM W ct (.Subscript v s p) c}
 | .Slice lo up st _=>(r.E ct false v).bind λc=>(part r ct lo).bind λc1=>(part r ct up).bind λc2=>(part r ct st).map λc3=>⟨_,qSl c.2 c1.2 c2.2 c3.2⟩
 |s=>(r.E ct false v).bind λc=>(r.E ct false s).map λd=>⟨_,afc c.2 d.2⟩
def Rq(l:a6)(p:Pos):(ops:List CmpOp)→(rs:List a6)→Option {c//QC W ct (.Compare l ops rs p) c}
 | [o],[a]=>(HN ct.yl a o).bind λf=>(r.E ct false l).bind λc=>(r.E ct false a).map λd=>⟨_,qC1 f.2 c.2 d.2⟩
 | [o,o2],[a,b]=>(HN ct.yl a o).bind λf=>(HN ct.yl b o2).bind λg=>(r.E ct false l).bind λc=>(r.E ct false a).bind λd=>(r.E ct false b).map λe=>⟨_,qC2 f.2 g.2 c.2 d.2 e.2⟩
 |_,_=>none
noncomputable def PF:(ks:List (Option a6))→(vs:List a6)→Option {q:List (String×Nat×Pos)×List (String×CE)//QD W ct ks vs q.1 q.2}
 | [],[]=>some ⟨([],[]),qdN⟩
 |some (.Constant (.str y) k p)::ks,v::vs=>(qT W y).bind λx=>fy (mR (S x.1)) λh=>(r.E ct (ct.mu.contains x.1) v).bind λc=>(PF ks vs).map λq=>⟨((x.1,k,p)::q.1.1,(x.1,c.1)::q.1.2),qdC x.2 h c.2 q.2⟩
 |_,_=>none
def II:a6→Option (List String)
 | .Name y _=>(qT W y).map λx=> [x.1]
 | .Tuple es _ _=>es.foldr (λe o=>o.bind λl=>match e with
  | .Name y _=>(qT W y).map λx=>x.1::l
  |_=>none) (some [])
 |_=>none
def afg:(e:a6)→Option {q:Bool×CI//QI W ct e q.1 q.2}
 | .Call (.Name y _) [a,b] [] _=>fy (y==S "zip"&&glob ct y) λh=>(r.E ct false a).bind λc=>(r.E ct false b).map λd=>⟨(true,oC c.1 d.1),qIZ h (v8 c.2 (v8 d.2 IG))⟩
 |_=>none
def AV(e:a6):Option {q:Bool×CI//QI W ct e q.1 q.2}:=(afg r ct e).or ((r.E ct false e).map λc=>⟨(false,bE c.1),qIV c.2⟩)
noncomputable def HO(c:Ct):(fs:List a6)→Option {b//QT W c fs b}
 | []=>some ⟨λz σ=>some (true,σ),λz z=>WW⟩
 | [e]=>some ⟨(r.B c e).1,λaa K=>WX ((r.B c e).2 aa K)⟩
 |_=>none
def PG(m:Bool)(cN:a6)(scope:Scope)(p:Pos):(gens:List wD)→Option {c//QK W ct cN gens scope p c}
 | [⟨t,i,fs,a⟩]=>(II (W:=W) t).bind λns=>fy (xb scope ct.kd (".0"::ns)&&a==0) λha=>(AV r ct i).bind λq=>fy (!q.1.1||ny t) λhz=>(r.G (jD ct scope) t).bind λg=>(HO r (jD ct scope) fs).bind λb=>(r.E (jD ct scope) false cN).map λe=>⟨_,qK1 m ha q.2 g.2 b.2 hz e.2⟩
 | [⟨t,i,fs,a⟩,⟨t2,i2,yn,a2⟩]=>(II (W:=W) t).bind λns=>(II (W:=W) t2).bind λns2=>fy (xb scope ct.kd (".0"::(ns++ns2))&&a==0) λha=>(AV r ct i).bind λq=>fy (!q.1.1&&a2==0) λhz=>(r.G (jD ct scope) t).bind λg=>(HO r (jD ct scope) fs).bind λb=>
  (AV r (jD ct scope) i2).bind λq2=>fy (!q2.1.1) λoJ=>(r.G (jD ct scope) t2).bind λg2=>(HO r (jD ct scope) yn).bind λb2=>(r.E (jD ct scope) false cN).map λe=>⟨_,qK2 m ha q.2 g.2 b.2 hz oJ q2.2 g2.2 b2.2 e.2⟩
 |_=>none
noncomputable def wr{e:a6}(o:Option {c//QM W ct e c})(st:notStar e=true)(fo:∀aa x,qa e aa x=pure x)(ma:∀op,C9 op e=false)(sb:∀o i,subscripted e false o i=operate [o,i] (vd o i))(sw:vE e=false→∀t k aa,uO e t k aa=pure false):Option {c//QE W ct e c}:=o.map λc=>⟨c.1,c.2,st,fo,ma,sb,sw⟩
def adI(m:Bool):(e:a6)→Option {c//QE W ct e c}
 | .Constant c k p=>wr ct (acI ct k p c) rfl (λz z=>rfl) (λz=>rfl) (λz z=>rfl) λz z z z=>rfl
 | .Name y p=>wr ct (eName ct y p) rfl (λz z=>rfl) (λz=>rfl) (λz z=>rfl) λz z z z=>rfl
 | .Tuple es _ _=>wr ct (fy (decide (es.length≤1000)) λh=>(lE r ct [] es).map λcs=>⟨_,HM cs.2 h⟩) rfl (λz z=>rfl) (λz=>rfl) (λz z=>rfl) λz z z z=>rfl
 | .List es _=>wr ct (fy (decide (es.length≤1000)) λh=>(lE r ct [] es).map λcs=>⟨_,ae7 cs.2 h m⟩) rfl (λz z=>rfl) (λz=>rfl) (λz z=>rfl) λz z z z=>rfl
 | .Dict ks vs p=>wr ct (match ks,vs with
  | [],[]=>some ⟨qx,λz z=>aaw W.ok.sys⟩
  |ks,vs=>(PF r ct ks vs).bind λq=>fy (!q.1.2.isEmpty&&decide (q.1.2.length≤15)&&decide (q.1.2.map (·.1)).Nodup) λh=>some ⟨_,afd q.2 h⟩) rfl (λz z=>rfl) (λz=>rfl) (λz z=>rfl) λz z z z=>rfl
 | .Call (.Name y p) es [] pos=>wr ct (adF r ct y p pos es) rfl (λz z=>rfl) (λz=>rfl) (λz z=>rfl) λz z z z=>rfl
 | .Call (.Attribute o y p) es [] pos=>wr ct (adG r ct o y p pos es) rfl (λz z=>rfl) (λz=>rfl) (λz z=>rfl) λz z z z=>rfl
 | .Attribute o y _=>wr ct ((isNm o).bind λb=>(FQ (W:=W) ct o).bind λC=>(oo (λq=>S q.1==y&&q.2==C) W.T.attrs).bind λg=>(r.E ct false o).map λc=>⟨_,qAt c.2 b.2 g.2.1 g.2.2⟩) rfl (λz z=>rfl) (λz=>rfl) (λz z=>rfl) λz z z z=>rfl
 | .Subscript v s p=>wr ct (adH r ct v p s) rfl (λz z=>rfl) (λz=>rfl) (λz z=>rfl) λz z z z=>rfl
 | .BinOp a op b _=>wr ct ((afb a op).bind λf=>(r.E ct false a).bind λc=>(r.E ct false b).map λd=>⟨_,λaa K=>abE f.2 (c.2.sm aa K) (d.2.sm aa K)⟩) rfl (λz z=>rfl) (λz=>rfl) (λz z=>rfl) λz z z z=>rfl
 | .UnaryOp .Not x _=>wr ct ((r.E ct false x).map λc=>⟨_,λaa K=>abN (c.2.sm aa K)⟩) rfl (λz z=>rfl) (λz=>rfl) (λz z=>rfl) λz z z z=>rfl
 | .UnaryOp .USub x _=>wr ct ((r.E ct false x).map λc=>⟨_,λaa K=>abO (c.2.sm aa K)⟩) rfl (λz z=>rfl) (λz=>rfl) (λz z=>rfl) λz z z z=>rfl
 | .BoolOp op (e::es) _=>wr ct ((r.E ct false e).bind λc=>(lE r ct [] es).map λcs=>⟨_,qBo (v8 c.2 cs.2) op⟩) rfl (λz z=>rfl) (λz=>rfl) (λz z=>rfl) λz z z z=>rfl
 | .Compare l ops rs p=>wr ct ((Rq r ct l p ops rs).map λc=>⟨_,λaa K=>(c.2 aa K).1⟩) rfl (λz z=>rfl) (λz=>rfl) (λz z=>rfl) λz z z z=>rfl
 | .IfExp t a b _=>wr ct ((r.E ct false a).bind λc=>(r.E ct false b).map λd=>⟨_,λaa K=>abM ((r.B ct t).2 aa K) (c.2.sm aa K) (d.2.sm aa K)⟩) rfl (λz z=>rfl) (λz=>rfl) (λz z=>rfl) λz z z z=>rfl
 | .ListComp cN gens scope p=>wr ct ((PG r ct m cN scope p gens).map λc=>⟨c.1,c.2.se⟩) rfl (λz z=>rfl) (λz=>rfl) (λz z=>rfl) λq=>pL q
 |_=>none
def adJ:(e:a6)→Option {c//QB W ct e c}
 | .Compare l ops rs p=>(Rq r ct l p ops rs).map λc=>⟨c.1,λaa K=>(c.2 aa K).2 _⟩
 | .BoolOp op es _=>some ⟨_,qBB (λe=>(r.B ct e).2) op⟩
 | .UnaryOp .Not x _=>some ⟨_,afe (r.B ct x).2⟩
 | .Name y p=>(r.E ct false (.Name y p)).map λc=>⟨_,qV c.2 λz z=>rfl⟩
 | .Call f es kw p=>(r.E ct false (.Call f es kw p)).map λc=>⟨_,qV c.2 λz z=>rfl⟩
 | .Attribute o y p=>(r.E ct false (.Attribute o y p)).map λc=>⟨_,qV c.2 λz z=>rfl⟩
 | .Subscript v s p=>(r.E ct false (.Subscript v s p)).map λc=>⟨_,qV c.2 λz z=>rfl⟩
 | .Constant c k p=>(r.E ct false (.Constant c k p)).map λc=>⟨_,qV c.2 λz z=>rfl⟩
 |_=>none
noncomputable def adK(es:List a6):(e:a6)→Option {_u:Unit//∀aa,o7 (e::es) aa=(false,assign e aa)::o7 es aa}
 | .Name .. =>some ⟨(),λz=>rfl⟩
 | .Attribute .. =>some ⟨(),λz=>rfl⟩
 | .Tuple .. =>some ⟨(),λz=>rfl⟩
 | .Subscript .. =>some ⟨(),λz=>rfl⟩
 |_=>none
noncomputable def gs:(es:List a6)→Option {fs//ym W ct es fs}
 | []=>some ⟨[],qgN⟩
 |e::es=>(adK es e).bind λq=>(r.G ct e).bind λf=>(gs es).map λfs=>⟨f.1::fs.1,qgC f.2 q.2 fs.2⟩
def adL:(e:a6)→Option {c//QG W ct e c}
 | .Name y _=>fy (qE ct y) λh=>(qT W y).map λx=>⟨a8 x.1,qTN x.2 h⟩
 | .Tuple es _ _=>(gs r ct es).map λfs=>⟨gP fs.1,qTT fs.2⟩
 | .Attribute o y _=>(FQ (W:=W) ct o).bind λC=>(oo (λq=>S q.1==y&&q.2==C) W.T.sets).bind λg=>(r.E ct false o).map λc=>⟨_,qTA c.2 g.2.1 g.2.2⟩
 | .Subscript o i _=>(r.E ct false o).bind λc=>(r.E ct false i).map λd=>⟨_,qTS c.2 d.2⟩
 |_=>none
def Bt(t:a6):Bool:=match t with
 | .Name y _=>ct.mu.any λx=>S x==y
 | .Attribute _ y _=>ct.mu.any λx=>S x==y
 |_=>false
noncomputable def SO:(ys:List Str)→Option {xs:List String//xs.map S=ys∧∀x∈xs,qE ct (S x)=true}
 | []=>some ⟨[],rfl,λz m=>nomatch m⟩
 |y::ys=>(qT W y).bind λx=>fy (qE ct (S x.1)) λh=>(SO ys).map λxs=>⟨x.1::xs.1,congr (bV List.cons x.2) xs.2.1,λu m=>(cG.mp m).elim (λq=>q▸h) (xs.2.2 u)⟩
noncomputable def afh{α:Type}:(o:Option α)→Option {x:α//o=some x}
 |some x=>some ⟨x,rfl⟩
 |none=>none
def asg{t:a6}(m:Bool)(f:{f//QG W ct t f})(p2:Pos)(hL:∀cN gens scope p1 k aa,Dc [t] (.ListComp cN gens scope p1) k aa=pure false)(he:∀aa,(o7 [t] aa).map (·.2)= [assign t aa])(hw:∀v aa,y8 [t] v aa=pure none):(v:a6)→Option {c//QS W ct (.Assign [t] v p2) c}
 | .ListComp cN gens scope p1=>(r.E ct m (.ListComp cN gens scope p1)).map λc=>⟨_,tQ c.2.sm f.2 (hL _ _ _ _) he λaa z=>hw _ aa⟩
 |v=>fy (!vE v) λh=>(r.E ct m v).map λc=>⟨_,tQ c.2.sm f.2 (λk aa=>c.2.sw (by simpa using h) (some t) k aa) he λaa z=>hw v aa⟩
def adM(p2:Pos)(v:a6):(t:a6)→Option {c//QS W ct (.Assign [t] v p2) c}
 | .Name y p=>(qT W y).bind λx=>fy (qE ct y) λh0=>match(motive:=(v:a6)→Option {c//QS W ct (.Assign [.Name y p] v p2) c}) v with
  | .ListComp cN gens scope p1=>(PG r ct (Bt ct (.Name y p)) cN scope p1 gens).map λc=>⟨_,adB x.2 h0 c.2⟩
  |v=>fy (!vE v) λh=>(r.E ct (Bt ct (.Name y p)) v).map λc=>⟨_,aff x.2 h0 (by simpa using h) c.2⟩
 | .Tuple ts k p=>(r.G ct (.Tuple ts k p)).bind λf=>match(motive:=(v:a6)→Option {c//QS W ct (.Assign [.Tuple ts k p] v p2) c}) v with
  | .Tuple vs k' p'=>fy (decide (vs.length≤1000)) λhz=>(lE r ct (ts.map (Bt ct)) vs).bind λcs=>(afh (v9 ct ts vs)).bind λo=>match o with
   |⟨some ys,h⟩=>(SO (W:=W) ct ys).map λxs=>⟨_,adD cs.2 hz h xs.2⟩
   |⟨none,h⟩=>some ⟨_,adC cs.2 hz h f.2⟩
  | .Call f' es kw p'=>(r.E ct false (.Call f' es kw p')).map λc=>⟨_,tQ c.2.sm f.2 (λz z=>rfl) (λz=>rfl) λz z=>rfl⟩
  | .Name y p'=>(r.E ct false (.Name y p')).map λc=>⟨_,tQ c.2.sm f.2 (λz z=>rfl) (λz=>rfl) λz z=>rfl⟩
  | .Attribute a b p'=>(r.E ct false (.Attribute a b p')).map λc=>⟨_,tQ c.2.sm f.2 (λz z=>rfl) (λz=>rfl) λz z=>rfl⟩
  | .Subscript a b p'=>(r.E ct false (.Subscript a b p')).map λc=>⟨_,tQ c.2.sm f.2 (λz z=>rfl) (λz=>rfl) λz z=>rfl⟩
  |_=>none
 | .Attribute o y p=>(r.G ct (.Attribute o y p)).bind λf=>asg r ct (Bt ct (.Attribute o y p)) f p2 (λz z z z z z=>rfl) (λz=>rfl) (λz z=>rfl) v
 | .Subscript o i p=>(r.G ct (.Subscript o i p)).bind λf=>asg r ct false f p2 (λz z z z z z=>rfl) (λz=>rfl) (λz z=>rfl) v
 |_=>none
def adN:(s:Stmt)→Option {c//QS W ct s c}
 | .Return (some e) _=>(r.E ct false e).map λc=>⟨_,λaa K=>abC (c.2.sm aa K)⟩
 | .Return none _=>some ⟨_,λz z=>Z2⟩
 | .Break _=>some ⟨_,λz z=>abD⟩
 | .Continue _=>some ⟨_,λz z=>Z3⟩
 | .Expr e _=>fy (!vE e) λh=>(r.E ct false e).map λc=>⟨_,λaa K=>aap (c.2.sm aa K) (by unfold interactive;rw[K.fn];rfl) (c.2.sw (by simpa using h) _ _ _)⟩
 | .If t a b _=>some ⟨_,λaa K=>ade ((r.B ct t).2 aa K) ((r.Z ct a).2 aa K) ((r.Z ct b).2 aa K)⟩
 | .While t b [] _=>some ⟨_,λaa K=>Yg K.eo 1000 ((r.B ct t).2 aa K) ((r.Z ct b).2 aa K)⟩
 | .For t i b [] _=>(AV r ct i).bind λq=>(r.G ct t).bind λg=>match q with
  |⟨(true,_),h⟩=>fy (ny t) λht=>some ⟨_,λaa K=>aav K.eo ht (h aa K).1 (g.2 aa K) ((r.Z ct b).2 aa K) (h aa K).2⟩
  |⟨(false,_),h⟩=>some ⟨_,λaa K=>acm K.eo (h aa K).1 (g.2 aa K) ((r.Z ct b).2 aa K) (h aa K).2⟩
 | .Try b (_::_) [] [] _=>some ⟨(r.Z ct b).1,λaa K=>acx ((r.Z ct b).2 aa K)⟩
 | .Assign [t] v p=>adM r ct p v t
 |_=>none
def Ru(s:Stmt):{c//QS W ct s c}:=(adN r ct s).getD ⟨kL,λz z=>Nl⟩
noncomputable def FR:(l:List Stmt)→{c//QZ W ct l c}
 | []=>⟨aC,λz z=>abB⟩
 |s::l=>⟨ak (Ru r ct s).1 (FR l).1,λaa K=>Z1 K.eo ((Ru r ct s).2 aa K) ((FR l).2 aa K)⟩
end
noncomputable def SP{W:Wd}(ct:Ct)(e:a6):{c//QB W ct e c}:=⟨λz z=>none,λz z z z z z z z z z z z z z e=>aQ e⟩
noncomputable def comp(W:Wd):Nat→Cp W
 |0=>⟨λz z z=>none,SP,λz z=>none,λz z=>⟨kL,λz z=>Nl⟩⟩
 |k+1=>⟨λct m e=>adI (comp W k) ct m e,λct e=>(adJ (comp W k) ct e).getD (SP ct e),adL (comp W k),FR (comp W k)⟩
end
end
theorem FT{ps:List String}(h:∀f:Nat→au,sL fd ⟨(dK ps.length).map f,[]⟩=pure ((ps.map S).zip ((dK ps.length).map f)))(vs:List au)(hl:vs.length=ps.length):sL fd ⟨vs,[]⟩=pure ((ps.map S).zip vs):=by
 rw[(List.ext_getElem (by simp[hl]) λi h1 h2=>by simp[h1]:vs=(dK ps.length).map λi=>vs.getD i .none)];exact h _
theorem YC{K:Frag}{C:Nat}{x:String}(h1:jy K (.ref C) "__getattribute__"=some (some (.builtin "object.__getattribute__")))(h2:zM K C=true)(h3:jy K (.ref C) (S x)=some none):zQ K C x:=
 ⟨h1,(by
  unfold zM at h2;cases g:clsIn K C with
  |none=>rw[g]at h2;exact cL h2
  |some cd=>rw[g]at h2;exact⟨cd,rfl,by simpa using h2⟩),h3⟩
noncomputable def ot(fd:nX):List Stmt:=match fd.body with
 | .stmts b=>b
 |_=> []
noncomputable def wa(fd:nX)(mu:List String)(self:Nat)(yl:Bool):Ct:=⟨λy=>fd.scope.names.lookup y,λy=>decide (fd.scope.names.lookup y=some .cell),mu,self,yl⟩
section
noncomputable def cD.c9(T:cD)(x:String)(g:Fn):cD:={T with calls:=(x,g)::T.calls}
noncomputable def cD.gp(T:cD)(x:String)(C:Nat)(g:Fn):cD:={T with meths:=(x,C,g)::T.meths}
end
section
variable{ae:bw}{w:br}{ag:aF}{n m:Nat}{T:cD}
theorem SE.mono{c:CE}(h:SE ae w ag n aa t c)(k:n≤m):SE ae w ag m aa t c:=λA s α ρ σ pv aq E Q ho=>h A s α ρ σ pv aq E Q (ho.mono k)
theorem bc.up(H:bc ae w ag n T):bc ae w ag (n+1) T:=
 ⟨H.B,H.sys,λp m=>cY (H.calls p m) λf a b c=>⟨f,a,b,c.mono (rm n)⟩,λp m aa pos k=>(H.vals p m aa pos k).mono (rm n),λp m=>aT (H.meths p m) λf a b=>⟨f,a,b.mono (rm n)⟩,H.attrs,H.sets⟩
theorem bc.c9(H:bc ae w ag n T){x:String}{g:Fn}{f:au}(h:∀aa pos,aa.kindOf (S x)=some .globalImplicit→GV ae w ag aa (.Name (S x) pos) f)(h2:Callee ae w ag f)(h3:eh ae w ag n f g):bc ae w ag n (T.c9 x g):=
 ⟨H.B,H.sys,λp m=>(cG.mp m).elim (λq=>by rw[q];exact⟨f,h,h2,h3⟩) (H.calls p),H.vals,H.meths,H.attrs,H.sets⟩
theorem bc.gp(H:bc ae w ag n T){x:String}{C:Nat}{g:Fn}{f:aI}(h:Ec (KK w.params) C x f)(h3:eh ae w ag n (.ref f) g):bc ae w ag n (T.gp x C g):=
 ⟨H.B,H.sys,H.calls,H.vals,λp m=>(cG.mp m).elim (λq=>by rw[q];exact⟨f,h,h3⟩) (H.meths p),H.attrs,H.sets⟩
theorem aaY(O:rC fd.scope params)(mu:List String)(self:Nat)(k:Bool)(L a:aI):At (wa fd mu self k) (jd fd L a):=
 ⟨rfl,VY O,O.1.1,λx h=>⟨fQ h,λc e=>(yT _ _ _ _ _ e).elim (λh=>aQ h) id⟩⟩
theorem bc.walk(H:bc ae w ag n T){f:aI}{c:CS}(mu:List String)(self:Nat)(k:Bool)
 (hc:((comp ⟨ae,w,ag,n,T,H⟩ 60).Z (wa fd mu self k) (ot fd)).1=c) (O:rC fd.scope params) (L:aI):SS ae w ag n (jd fd L f) (execs (ot fd) (jd fd L f)) c:=
 hc▸((comp ⟨ae,w,ag,n,T,H⟩ 60).Z (wa fd mu self k) (ot fd)).2 _ (aaY O mu self k L f)
section
variable(H:bc ae w ag n T){fd:nX}{f:aI}{params:List String}{c:CS}(mu:List String)(self:Nat)(k:Bool)
 (hc:((comp ⟨ae,w,ag,n,T,H⟩ 60).Z (wa fd mu self k) (ot fd)).1=c)
 (hf:(KK w.params).lookup f=some {cls:= .type "function",data:= .func fd})
 (hq:(codeIn (KK w.params) fd.code fd.qualname,wW fd.scope params,fd.body,fd.closure,fd.globals,fd.builtins)=(true,true,.stmts (ot fd),[],ic,qf))
 (lY:∀f:Nat→au,sL fd ⟨(dK params.length).map f,[]⟩=pure ((params.map S).zip ((dK params.length).map f)))
include H hc hf hq lY
theorem bc.code:n8 ae w ag (n+1) f (m7 params c):=by
 simp only[ri]at hq;exact XU H.B hf hq.1 hq.2.2.1 hq.2.2.2.1 hq.2.2.2.2.1 hq.2.2.2.2.2 (FT lY) (uL hq.2.1) (H.walk mu self k hc (uL hq.2.1))
theorem bc.drop:tA ae w ag (n+1) f (cI params c):=by
 simp only[ri]at hq;exact Z5 H.B hf hq.1 hq.2.2.1 hq.2.2.2.1 hq.2.2.2.2.1 hq.2.2.2.2.2 (FT lY) (uL hq.2.1) (H.walk mu self k hc (uL hq.2.1))
end
theorem bc.fn(H:bc ae w ag n T){x:String}{f:aI}{g:Fn}(hf:tA ae w ag (n+1) f g)(hg:(nsIn (KK w.params) ic (S x),keepIn (KK w.params) (.ref f),S x==S "__debug__")=(some (some (.ref f)),true,false)):bc ae w ag (n+1) (T.c9 x g):=by
 simp only[ri]at hg;exact H.up.c9 (λaa pos hk=>gO H.B hk hg.2.2 hg.1) (DN H.B hg.2.1) hf.call
theorem bc.cl(H:bc ae w ag (n+1) T){x:String}{C fI:Nat}{g:Fn}(hf:n8 ae w ag n fI g)
 (hg:(nsIn (KK w.params) ic (S x),keepIn (KK w.params) (.ref C),S x==S "__debug__",makesIn (KK w.params) C,jy (KK w.params) (.ref C) "__init__",isFn (KK w.params) (.ref fI))=(some (some (.ref C)),true,false,true,some (some (.ref fI)),true)):bc ae w ag (n+1) (T.c9 x (lz C g)):=by
 simp only[ri]at hg;exact H.c9 (λaa pos hk=>gO H.B hk hg.2.2.1 hg.1) (DN H.B hg.2.1) (acy H.B ⟨hg.2.2.2.1,hg.2.2.2.2.1,hg.2.2.2.2.2⟩ hf)
theorem bc.me(H:bc ae w ag n T){x:String}{C f:Nat}{g:Fn}(hf:tA ae w ag (n+1) f g)
 (hg:(jy (KK w.params) (.ref C) "__getattribute__",jy (KK w.params) (.ref C) "__getattr__",jy (KK w.params) (.ref C) (S x),typeIn (KK w.params) (.ref f),keepIn (KK w.params) (.ref f))=(some (some (.builtin "object.__getattribute__")),some none,some (some (.ref f)),some (.type "function"),true)):bc ae w ag (n+1) (T.gp x C g):=by
 simp only[ri]at hg;exact H.up.gp hg hf.call
theorem bc.dF(H:bc ae w ag n T){x:String}{c:CS}(f:aI)(fd:nX)(mu:List String:= [])(self:Nat:=0)(k:Bool:=false)
 (hc:((comp ⟨ae,w,ag,n,T,H⟩ 60).Z (wa fd mu self k) (ot fd)).1=c:=by kernel_rfl)
 (hf:(KK w.params).lookup f=some {cls:= .type "function",data:= .func fd}:=by kernel_rfl)
 (hq:(codeIn (KK w.params) fd.code fd.qualname,wW fd.scope params,fd.body,fd.closure,fd.globals,fd.builtins)=(true,true,.stmts (ot fd),[],ic,qf):=by kernel_rfl)
 (lY:∀f:Nat→au,sL fd ⟨(dK params.length).map f,[]⟩=pure ((params.map S).zip ((dK params.length).map f)):=by intro;kernel_rfl)
 (hg:(nsIn (KK w.params) ic (S x),keepIn (KK w.params) (.ref f),S x==S "__debug__")=(some (some (.ref f)),true,false):=by kernel_rfl):bc ae w ag (n+1) (T.c9 x (cI params c)):=
 H.fn (H.drop mu self k hc hf hq lY) hg
theorem bc.dM(H:bc ae w ag n T){x:String}{c:CS}{C:Nat}(f:aI)(fd:nX)(mu:List String:= [])(self:Nat:=0)(k:Bool:=false)
 (hc:((comp ⟨ae,w,ag,n,T,H⟩ 60).Z (wa fd mu self k) (ot fd)).1=c:=by kernel_rfl)
 (hf:(KK w.params).lookup f=some {cls:= .type "function",data:= .func fd}:=by kernel_rfl)
 (hq:(codeIn (KK w.params) fd.code fd.qualname,wW fd.scope params,fd.body,fd.closure,fd.globals,fd.builtins)=(true,true,.stmts (ot fd),[],ic,qf):=by kernel_rfl)
 (lY:∀f:Nat→au,sL fd ⟨(dK params.length).map f,[]⟩=pure ((params.map S).zip ((dK params.length).map f)):=by intro;kernel_rfl)
 (hg:(jy (KK w.params) (.ref C) "__getattribute__",jy (KK w.params) (.ref C) "__getattr__",jy (KK w.params) (.ref C) (S x),typeIn (KK w.params) (.ref f),keepIn (KK w.params) (.ref f))=(some (some (.builtin "object.__getattribute__")),some none,some (some (.ref f)),some (.type "function"),true):=by kernel_rfl):bc ae w ag (n+1) (T.gp x C (cI params c)):=
 H.me (H.drop mu self k hc hf hq lY) hg
end
section
set_option maxHeartbeats 4000000
section
noncomputable def rI:cD:=⟨["told","x","k","clause","self","v","one","len","tape","name","note","some","values","literal","_law_take","premises","rule","tuple","d","scene","found","many","high","low","point","box","list","range","step","steps","isinstance","left","kind","lots","seen","sign","","!=","<=",">=","better","points","spot","=","bend","goal","thing","free","nogood","number","tolds","total","c","domain","domains","factors","here","i","j","queue","able","answers","b","came","due","line","owner","spots","strike","values_of","_law_is_whole","_law_lets","all_different","apart","common","is_whole","lack","linear_eq","log","max","table","zip","cells","e","ends","greatest","least","linear_le","lot","min","minimize","place","premise","sorted","MOST_LISTED","_law_clause","_law_keeps","a","at","checker","int","lap","linear_holds","maximize","p","row","satisfy","scope","set","struck","word","Box","LINEAR","ProofFault","_law_told","abs","again","answer","bool","cell","coef","coefs","count","dict","element","factor","from_on","given","has","holds","imp","inverse","kept","lines","menu","most","often","reif","size","unlike","up_to","value","wide"," values are listed","<","ARITH","CHOICES","COUNTS","LimitFault","LogChecker","ORDERS","ProofLog","StepJudge","TIMES","_law_bent","_law_follows","_law_is_clause","_law_step","_law_word","all","and","are_inverse","arith_holds","at most ","cardinality","choice_holds","circuit","count_holds","div","divisor_of","element_of","end","guess","is_accepted","is_round","lex_le","lex_lt","linear_ne","listed_vars","logic_holds","meet","mod","negation","next_from","nvalue","or","order_holds","precede","regular","script","sum","time_holds","times","too many values to try","vars_of","without","xor"],[],[("LINEAR",zU),("ARITH",Eh),("CHOICES",DJ),("COUNTS",DW),("TIMES",Ei),("ORDERS",DX),("MOST_LISTED",As)],[],[("answers",539),("domains",403),("domains",463),("domains",539),("goal",539),("judge",539),("most",463),("steps",347),("told_apart",539),("tolds",539),("turned",403)],[("answers",539),("domains",403),("domains",463),("domains",539),("goal",539),("judge",539),("most",463),("places",347),("steps",347),("told_apart",539),("tolds",539),("turned",403)],[("box",403),("checker",539),("log",347),("judge",463)]⟩
def HP:cD:=((((((((((rI.c9 "len" cq).c9 "abs" Hf).c9 "max" tB).c9 "min" vw).c9 "sum" Hn).c9 "sorted" n9).c9 "int" Be).c9 "range" gz).c9 "list" jT).c9 "tuple" jv).c9 "dict" xu
end
section
variable{ae:bw}{w:br}{ag:aF}
theorem aaZ(B:KBw w ag)(iq:∃o,ag.get? jt=some o):bc ae w ag 0 rI:=by
 have a:rI.attrs.map (λp=>(jy (KK w.params) (.ref p.2) "__getattribute__",zM (KK w.params) p.2,jy (KK w.params) (.ref p.2) (S p.1)))=rI.attrs.map λz=>(some (some (.builtin "object.__getattribute__")),true,some none):=by kernel_rfl
 have b:rI.sets.map (λp=>(jy (KK w.params) (.ref p.2) "__setattr__",plainOver (KK w.params) p.2,takerIn (KK w.params) p.2 (S p.1),zM (KK w.params) p.2))=rI.sets.map λz=>(some (some (.builtin "object.__setattr__")),true,some none,true):=by kernel_rfl
 refine⟨B,iq,λp m=>(by cases m),λp m aa pos k=> ?_,λp m=>(by cases m),λp m=> ?_,λp m=> ?_⟩
 ·simp only[rI,cG,ff,fg]at m;rcases m with m|m|m|m|m|m|m<;>rw[m]at k⊢
  ·exact Yz B k
  ·exact aaV B k
  ·exact Xm B k
  ·exact YA B k
  ·exact aaW B k
  ·exact YB B k
  ·exact acE B k
 ·have h:=J4.mp a p m;simp only[ri]at h;exact YC h.1 h.2.1 h.2.2
 ·have h:=J4.mp b p m;simp only[ri]at h;exact h
theorem bc.bi{T:cD}(H:bc ae w ag 0 T){x:String}{g:Fn}(hc:Callee ae w ag v)(h:eh ae w ag 0 v g)(hg:nsIn (KK w.params) ic (S x)=some none:=by kernel_rfl)(hd:(S x==("__debug__":Str))=false:=by kernel_rfl)(hn:S x≠"__name__":=by decide)(hb:Dg (S x)=some v:=by kernel_rfl):bc ae w ag 0 (T.c9 x g):=
 H.c9 (λaa pos hk=>gB H.B hk hd hg hn hb) hc h
theorem aa0(B:KBw w ag)(iq:∃o,ag.get? jt=some o):bc ae w ag 0 HP:=by
 have H:bc ae w ag 0 rI:=aaZ B iq;exact(((((((((((H.bi oS abX).bi oS abY).bi oS aca).bi oS acb).bi oS acu).bi oS Yw).bi oZ acd).bi oZ X6).bi oZ aai).bi oZ X7).bi oZ (aaO H.sys))
def HQ:cD:=HP.c9 "values_of" zm
theorem aa1(H:bc ae w ag 0 HP):bc ae w ag 1 HQ:=H.dF 32 KH
def HR:cD:=HQ.c9 "linear_holds" yZ
theorem aa2(H:bc ae w ag 1 HQ):bc ae w ag 2 HR:=H.dF 46 Ke
def HS:cD:=HR.c9 "choice_holds" C1
theorem aa3(H:bc ae w ag 2 HR):bc ae w ag 3 HS:=H.dF 74 Kf
def HT:cD:=HS.c9 "count_holds" C6
theorem aa4(H:bc ae w ag 3 HS):bc ae w ag 4 HT:=H.dF 79 Ko
def HU:cD:=HT.c9 "holds" sP
theorem aa5(H:bc ae w ag 4 HT):bc ae w ag 5 HU:=H.dF 115 Ml
def HV:cD:=HU.c9 "listed_vars" C7
theorem aa6(H:bc ae w ag 5 HU):bc ae w ag 6 HV:=H.dF 122 Kq
def HW:cD:=HV.c9 "vars_of" DK
theorem aa7(H:bc ae w ag 6 HV):bc ae w ag 7 HW:=H.dF 129 Lk ["found"]
def HX:cD:=HW.c9 "size" Au
theorem aa8(H:bc ae w ag 7 HW):bc ae w ag 8 HX:=H.dF 203 M6
def HY:cD:=HX.c9 "next_from" Lf
theorem aa9(H:bc ae w ag 8 HX):bc ae w ag 9 HY:=H.dF 210 KJ
def FU:cD:=HY.c9 "has" xv
theorem YD(H:bc ae w ag 9 HY):bc ae w ag 10 FU:=H.dF 217 NX
def FV:cD:=FU.c9 "values" wX
theorem YE(H:bc ae w ag 10 FU):bc ae w ag 11 FV:=H.dF 224 LI ["found"]
def FW:cD:=FV.c9 "up_to" Ah
theorem YF(H:bc ae w ag 11 FV):bc ae w ag 12 FW:=H.dF 229 Mm
def FX:cD:=FW.c9 "from_on" zH
theorem YG(H:bc ae w ag 12 FW):bc ae w ag 13 FX:=H.dF 234 Ll
def FY:cD:=FX.c9 "without" DL
theorem YH(H:bc ae w ag 13 FX):bc ae w ag 14 FY:=H.dF 241 Lm
def FZ:cD:=FY.c9 "meet" EA
theorem YI(H:bc ae w ag 14 FY):bc ae w ag 15 FZ:=H.dF 248 M7 ["found"]
def F6:cD:=FZ.c9 "negation" Dz
theorem YJ(H:bc ae w ag 15 FZ):bc ae w ag 16 F6:=H.dF 255 KW
def F8:cD:=F6.c9 "struck" zV
theorem YK(H:bc ae w ag 16 F6):bc ae w ag 17 F8:=H.dF 262 LJ
def F9:cD:=F8.c9 "is_whole" js
theorem YL(H:bc ae w ag 17 F8):bc ae w ag 18 F9:=H.dF 274 KX
def AW:cD:=F9.c9 "divisor_of" Df
theorem YM(H:bc ae w ag 18 F9):bc ae w ag 19 AW:=H.dF 281 Kv
theorem UP(H:bc ae w ag 19 AW):n8 ae w ag 20 295 yU:=
 H.code (fd:=J5) (params:= ["self"]) ["steps"] 347 false (by kernel_rfl) (by kernel_rfl) (by kernel_rfl) (by intro;kernel_rfl)
def AX:cD:=AW.c9 "ProofLog" (lz 347 yU)
theorem YN(H:bc ae w ag 19 AW):bc ae w ag 21 AX:=H.up.up.cl (C:=347) (UP H) (by kernel_rfl)
theorem Wq(H:bc ae w ag 21 AX):n8 ae w ag 22 365 wM:=
 H.code (fd:=KY) (params:= ["self","domains"]) [] 403 false (by kernel_rfl) (by kernel_rfl) (by kernel_rfl) (by intro;kernel_rfl)
def Ga:cD:=AX.c9 "Box" (lz 403 wM)
theorem YO(H:bc ae w ag 21 AX):bc ae w ag 23 Ga:=H.up.up.cl (C:=403) (Wq H) (by kernel_rfl)
def Gb:cD:=Ga.gp "domain" 403 wH
theorem YQ(H:bc ae w ag 23 Ga):bc ae w ag 24 Gb:=H.dM 372 Kx [] 403
def Gd:cD:=Gb.gp "can_hold" 403 C2
theorem YR(H:bc ae w ag 24 Gb):bc ae w ag 25 Gd:=H.dM 379 Kg [] 403
def Ge:cD:=Gd.gp "does_hold" 403 CP
theorem YS(H:bc ae w ag 25 Gd):bc ae w ag 26 Ge:=H.dM 386 J6 [] 403
def Gf:cD:=Ge.gp "say" 403 zI
theorem YT(H:bc ae w ag 26 Ge):bc ae w ag 27 Gf:=H.dM 393 Ln [] 403
def AY:cD:=Gf.gp "deny" 403 DB
theorem YU(H:bc ae w ag 27 Gf):bc ae w ag 28 AY:=H.dM 400 KZ [] 403
theorem UI(H:bc ae w ag 28 AY):n8 ae w ag 29 421 CN:=
 H.code (fd:=JZ) (params:= ["self","domains","most"]) [] 463 false (by kernel_rfl) (by kernel_rfl) (by kernel_rfl) (by intro;kernel_rfl)
def Gg:cD:=AY.c9 "StepJudge" (lz 463 CN)
theorem YV(H:bc ae w ag 28 AY):bc ae w ag 30 Gg:=H.up.up.cl (C:=463) (UI H) (by kernel_rfl)
def Gh:cD:=Gg.gp "is_beyond" 463 Co
theorem YW(H:bc ae w ag 30 Gg):bc ae w ag 31 Gh:=H.dM 438 Jx [] 463
def Gi:cD:=Gh.gp "has_row" 463 Cw
theorem YX(H:bc ae w ag 31 Gh):bc ae w ag 32 Gi:=H.dM 443 JJ [] 463
def Gj:cD:=Gi.gp "move_on" 463 Cy
theorem YY(H:bc ae w ag 32 Gi):bc ae w ag 33 Gj:=H.dM 455 JK [] 463
def Gk:cD:=Gj.gp "can_differ" 463 Ci
theorem YZ(H:bc ae w ag 33 Gj):bc ae w ag 34 Gk:=H.dM 450 Jr [] 463
def Gl:cD:=Gk.gp "is_refuted" 463 Cj
theorem Y0(H:bc ae w ag 34 Gk):bc ae w ag 35 Gl:=H.dM 431 Jq [] 463
def Gm:cD:=Gl.gp "has_tuple" 463 Cq
theorem Y1(H:bc ae w ag 35 Gl):bc ae w ag 36 Gm:=H.dM 460 Jy [] 463
def AZ:cD:=Gm.gp "follows" 463 yC
theorem Y2(H:bc ae w ag 36 Gm):bc ae w ag 37 AZ:=H.dM 426 JI [] 463
theorem UC(H:bc ae w ag 37 AZ):n8 ae w ag 38 481 yK:=
 H.code (fd:=JU) (params:= ["self","domains","tolds","goal","most"]) [] 539 false (by kernel_rfl) (by kernel_rfl) (by kernel_rfl) (by intro;kernel_rfl)
def Gn:cD:=AZ.c9 "LogChecker" (lz 539 yK)
theorem Y3(H:bc ae w ag 37 AZ):bc ae w ag 39 Gn:=H.up.up.cl (C:=539) (UC H) (by kernel_rfl)
def Gp:cD:=Gn.gp "is_clause" 539 Ck
theorem Y4(H:bc ae w ag 39 Gn):bc ae w ag 40 Gp:=H.dM 507 Js [] 539
def Gq:cD:=Gp.gp "strike_fault" 539 Ca
theorem Y5(H:bc ae w ag 40 Gp):bc ae w ag 41 Gq:=H.dM 514 Jj [] 539
def Gr:cD:=Gq.gp "clashes" 539 Cu
theorem Y6(H:bc ae w ag 41 Gq):bc ae w ag 42 Gr:=H.dM 519 JD [] 539
def Gs:cD:=Gr.gp "is_answer" 539 Cm
theorem Y7(H:bc ae w ag 42 Gr):bc ae w ag 43 Gs:=H.dM 524 Jt [] 539
def Gu:cD:=Gs.gp "better_fault" 539 Cb
theorem Y8(H:bc ae w ag 43 Gs):bc ae w ag 44 Gu:=H.dM 531 Jk [] 539
def Gv:cD:=Gu.gp "seen_fault" 539 Cg
theorem Y9(H:bc ae w ag 44 Gu):bc ae w ag 45 Gv:=H.dM 536 Jo [] 539
def A0:cD:=Gv.gp "fault_of" 539 q6
theorem Za(H:bc ae w ag 45 Gv):bc ae w ag 46 A0:=H.dM 500 Jz [] 539
theorem UD(H:bc ae w ag 46 A0):n8 ae w ag 47 488 yL:=
 H.code (fd:=JV) (params:= ["self","log"]) ["answers"] 539 false (by kernel_rfl) (by kernel_rfl) (by kernel_rfl) (by intro;kernel_rfl)
def Gw:cD:=A0.gp "look" 539 yL
theorem Zb(H:bc ae w ag 46 A0):bc ae w ag 47 Gw:=H.me ((UD H).fn) (by kernel_rfl)
def Gx:cD:=Gw.c9 "_law_take" jK
theorem Zc(H:bc ae w ag 47 Gw):bc ae w ag 48 Gx:=H.dF 550 K0
def Gy:cD:=Gx.c9 "_law_clause" zd
theorem Ze(H:bc ae w ag 48 Gx):bc ae w ag 49 Gy:=H.dF 557 Ky ["some"]
def Gz:cD:=Gy.c9 "_law_told" zq
theorem Zf(H:bc ae w ag 49 Gy):bc ae w ag 50 Gz:=H.dF 564 K6
def GA:cD:=Gz.c9 "_law_keeps" uI
theorem Zg(H:bc ae w ag 50 Gz):bc ae w ag 51 GA:=H.dF 571 KL
def GB:cD:=GA.c9 "_law_lets" rn
theorem Zh(H:bc ae w ag 51 GA):bc ae w ag 52 GB:=H.dF 578 K7
def GC:cD:=GB.c9 "_law_is_whole" rh
theorem Zi(H:bc ae w ag 52 GB):bc ae w ag 53 GC:=H.dF 585 Kh
def GD:cD:=GC.c9 "_law_is_clause" CQ
theorem Zj(H:bc ae w ag 53 GC):bc ae w ag 54 GD:=H.dF 590 J7 [] 0 true
def GF:cD:=GD.c9 "_law_follows" C8
theorem Zk(H:bc ae w ag 54 GD):bc ae w ag 55 GF:=H.dF 595 Kr ["left"]
def GG:cD:=GF.c9 "_law_word" wN
theorem Zl(H:bc ae w ag 55 GF):bc ae w ag 56 GG:=H.dF 600 K8
def GH:cD:=GG.c9 "_law_step" DC
theorem Zm(H:bc ae w ag 56 GG):bc ae w ag 57 GH:=H.dF 605 K9
def adO:cD:=GH.c9 "_law_bent" zw
theorem Zn(H:bc ae w ag 57 GH):bc ae w ag 58 adO:=H.dF 612 La
theorem adP(B:KBw w ag)(iq:∃o,ag.get? jt=some o):∀L,SS ae w ag 58 (jd ve L 617) (execs (ot ve) (jd ve L 617)) PD:=
 (Zn (Zm (Zl (Zk (Zj (Zi (Zh (Zg (Zf (Ze (Zc (Zb (Za (Y9 (Y8 (Y7 (Y6 (Y5 (Y4 (Y3 (Y2 (Y1 (Y0 (YZ (YY (YX (YW (YV (YU (YT (YS (YR (YQ (YO (YN (YM (YL (YK (YJ (YI (YH (YG (YF (YE (YD (aa9 (aa8 (aa7 (aa6 (aa5 (aa4 (aa3 (aa2 (aa1 (aa0 B iq))))))))))))))))))))))))))))))))))))))))))))))))))))))).walk (params:= ["script"]) ["seen","steps"] 0 false (by kernel_rfl) (uL (by kernel_rfl))
end
end
section
variable{ρ ai:aO}{σ aq τ:ah}
theorem bb{α:Type}{o:Option α}{f:α→Option β}{a:α}(h:o=some a):o.bind f=f a:=by rw[h];rfl
theorem aR{a b:CS}(h:a ρ σ=some (.next,ai,aq)):ak a b ρ σ=b ai aq:=bb h
theorem bS{a b:CS}{v:PV}(h:a ρ σ=some (.ret v,ai,aq)):ak a b ρ σ=some (.ret v,ai,aq):=bb h
theorem zW{a b:CS}(h:a ρ σ=some (.cont,ai,aq)):ak a b ρ σ=some (.cont,ai,aq):=bb h
theorem Ej{a b:CS}(h:a ρ σ=some (.brk,ai,aq)):ak a b ρ σ=some (.brk,ai,aq):=bb h
theorem cT{t:CB}{a b:CS}(h:t ρ σ=some (true,aq)):bt t a b ρ σ=a ρ aq:=bb h
theorem bZ{t:CB}{a b:CS}(h:t ρ σ=some (false,aq)):bt t a b ρ σ=b ρ aq:=bb h
theorem dE{c:CE}{v:PV}(h:c ρ σ=some (v,aq)):bI c ρ σ=some (.ret v,ρ,aq):=bb h
theorem cf{x:String}{c:CE}{v:PV}(h:c ρ σ=some (v,aq)):bx x c ρ σ=some (.next,ρ.set x v,aq):=bb h
theorem jA{c:CE}{f:CT}{v:PV}(h:c ρ σ=some (v,aq))(h2:f v ρ aq=some (ai,τ)):cW c f ρ σ=some (.next,ai,τ):=(bb h).trans (bb h2)
theorem xj{c:CE}{v:PV}(h:c ρ σ=some (v,aq)):lq c ρ σ=some (.next,ρ,aq):=bb h
theorem bp{g:List PV→ah→Option (PV×ah)}(h:eA cs ρ σ=some (args,aq)):aN g cs ρ σ=g args aq:=bb h
theorem aX{a b:CE}{x y:PV}{t:Bool}(h1:a ρ σ=some (x,aq))(h2:b ρ aq=some (y,τ))(h3:f τ x y=some t):aJ f a b ρ σ=some (t,τ):=(bb h1).trans ((bb h2).trans (bb h3))
theorem EB{o i:CE}{t:Nat}{x:Int}{v:PV}{l:List (Int×PV)}(h1:o ρ σ=some (.loc t,aq))(h2:i ρ aq=some (.int x,τ))(h3:τ[t]? =some (.aU l))(hz:l.length≤1000000):gm o i v ρ σ=some (ρ,τ.set t (.aU (put x v l))):=
 (bb h1).trans ((bb h2).trans ((bb h3).trans (bb (aP hz))))
theorem Oj{o i:CE}{t:Nat}{x:String}{v:PV}{l:List (String×PV)}(h1:o ρ σ=some (.loc t,aq))(h2:i ρ aq=some (.str x,τ))(h3:τ[t]? =some (.cZ l))(hz:l.length≤1000000):gm o i v ρ σ=some (ρ,τ.set t (.cZ (put x v l))):=
 (bb h1).trans ((bb h2).trans ((bb h3).trans (bb (aP hz))))
theorem Ol{o i:CE}{t x:Nat}{v:PV}{l:List PV}(h1:o ρ σ=some (.loc t,aq))(h2:i ρ aq=some (.int x,τ))(h3:τ[t]? =some (.list l))(hi:x<l.length)(hz:l.length≤1000000):gm o i v ρ σ=some (ρ,τ.set t (.list (l.set x v))):=
 (bb h1).trans ((bb h2).trans ((bb h3).trans (bb (aP ⟨sa x,gg.mpr hi,hz⟩))))
theorem Av{e:CE}{v:PV}{l:List PV}(h:e ρ σ=some (v,aq))(h2:aq[k]? =some (.list l))(hz:l.length≤1000000):bK e k ρ σ=some (ρ,aq.set k (.list (l++ [v]))):=
 (bb h).trans ((bb (show(aq[k]?).bind tD=some l from bb h2)).trans (aP hz))
theorem dz{c:CB}{t:Bool}(h:c ρ σ=some (t,aq)):cJ c ρ σ=some (.bool t,aq):=bb h
theorem dn{c:CE}{t:Bool}(h:c ρ σ=some (.bool t,aq)):cB c ρ σ=some (t,aq):=bb h
theorem fj{c:CB}{t:Bool}(h:c ρ σ=some (t,aq)):bY c ρ σ=some (!t,aq):=bb h
theorem eJ{c:CB}{cs:List CB}(h:c ρ σ=some (true,aq)):fk (c::cs) ρ σ=fk cs ρ aq:=bb h
theorem fY{c:CB}{cs:List CB}(h:c ρ σ=some (false,aq)):fk (c::cs) ρ σ=some (false,aq):=bb h
theorem dG{c:CB}{cs:List CB}(h:c ρ σ=some (true,aq)):dh (c::cs) ρ σ=some (true,aq):=bb h
theorem df{c:CB}{cs:List CB}(h:c ρ σ=some (false,aq)):dh (c::cs) ρ σ=dh cs ρ aq:=bb h
theorem da{f:lF}{a b:CE}{x y:PV}(h1:a ρ σ=some (x,aq))(h2:b ρ aq=some (y,τ)):bU f a b ρ σ=f τ x y:=(bb h1).trans (bb h2)
theorem dO{a b:CE}{x y v:PV}(h1:a ρ σ=some (x,aq))(h2:b ρ aq=some (y,τ))(h3:fZ τ x y=some v):aG a b ρ σ=some (v,τ):=(bb h1).trans ((bb h2).trans (bb h3))
theorem iJ{t:CB}{a b:CE}(h:t ρ σ=some (true,aq)):fm t a b ρ σ=a ρ aq:=bb h
theorem gC{t:CB}{a b:CE}(h:t ρ σ=some (false,aq)):fm t a b ρ σ=b ρ aq:=bb h
theorem bC{c:CE}{v:PV}{vs:List PV}(h:c ρ σ=some (v,aq))(h2:eA cs ρ aq=some (vs,τ)):eA (c::cs) ρ σ=some (v::vs,τ):=(bb h).trans (bb h2)
theorem aV{c:CE}{v:PV}(h:c ρ σ=some (v,aq)):eA [c] ρ σ=some ([v],aq):=bC h rfl
theorem d3{vs:List PV}(h:eA cs ρ σ=some (vs,aq)):bg cs ρ σ=some (.tup vs,aq):=bb h
theorem xw{vs:List PV}(h:eA cs ρ σ=some (vs,aq)):dc cs ρ σ=some (.lst vs,aq):=bb h
theorem dq{c:CE}{v:PV}{l:List PV}(h:c ρ σ=some (v,aq))(h2:itemsOf v=some l):bE c ρ σ=some (l,aq):=(bb h).trans (bb h2)
theorem gk{body:CS}{l:List PV}(h:it ρ σ=some (l,aq)):ft it bF body ρ σ=eU false 0 bF body l ρ aq:=bb h
theorem jR{o:CE}{C:Nat}{x:String}{l:List (String×PV)}{v:PV}(h1:o ρ σ=some (.loc k,aq))(h2:aq[k]? =some (.inst C l))(h3:l.lookup x=some v):ij o C x ρ σ=some (v,aq):=by
 refine(bb h1).trans ?_;dsimp only;rw[h2];dsimp only;rw[aP rfl,h3];rfl
theorem jx{o:CE}{C:Nat}{x:String}{g:List PV→ah→Option (PV×ah)}{l:List (String×PV)}(h1:o ρ σ=some (.loc k,aq))(h2:aq[k]? =some (.inst C l))(h3:l.lookup x=none)(h4:eA cs ρ aq=some (args,τ)):
 fi o C x g cs ρ σ=g (.loc k::args) τ:=by
 refine(bb h1).trans ?_;dsimp only;rw[h2];dsimp only;rw[aP ⟨rfl,h3⟩,h4];rfl
theorem vF{o:CE}{T:String}{g:List PV→ah→Option (PV×ah)}{v:PV}(h1:o ρ σ=some (v,aq))(h2:nr T aq v=true)(h4:eA cs ρ aq=some (args,τ)):jF o T g cs ρ σ=g (v::args) τ:=by
 refine(bb h1).trans ?_;rw[aP h2,h4];rfl
theorem fB{o:PO}(h:σ[k]? =some o)(τ:ah):(σ++τ)[k]? =some o:=by
 refine bG (fe.mp h) λq z=> ?_;exact(jn q).trans h
theorem fh(σ:ah)(o:PO)(τ:ah):(σ++o::τ)[σ.length]? =some o:=by
 rw[mJ (cH _),uG];rfl
theorem iF{o:PO}(h:σ[k]? =some o):k<σ.length:=(fe.mp h).1
theorem iD(σ:ah)(o o':PO)(τ:ah):(σ++o::τ).set σ.length o'=σ++o'::τ:=by
 rw[JH _ _ (cH _),uG];rfl
theorem Zo{e:CE}{l:List PV}{v:PV}(he:e ρ (σ++ [.list l])=some (v,σ++ [.list l]))(hz:l.length≤1000):bK e σ.length ρ (σ++ [.list l])=some (ρ,σ++ [.list (l++ [v])]):=(Av he (fh _ _ _) (ao hz (aK rfl))).trans (bV (λx=>some (ρ,x)) (iD _ _ _ _))
theorem xd(σ τ:ah):nh σ (σ++τ):=⟨by simp,λi h=> .inl (jn h)⟩
theorem acJ{n:Nat}{p:PV}(h:PV.lt n p=true)(τ:ah):pT n τ p=some p:=by
 cases p with
 |loc k=>exact aP (fQ h)
 |_=>exact aP (e:=none) h
noncomputable def adQ:Fl→PV
 | .ret v=>v
 |_=> .none
open Classical in
theorem mY{body:CS}{fl:Fl}{v:PV}(hl:args.length=params.length)(h:body (bX params args λz=>none) σ=some (fl,ai,aq))(hv:adQ fl=v)(ho:nh σ aq)(dD:PV.lt σ.length v=true)(ht:aq.take σ.length=τ):cI params body args σ=some (v,τ):=by
 unfold cI;rw[aP hl,h];subst hv;refine(aP ho).trans ?_;clear h;cases fl<;>exact(bb (acJ dD _)).trans (by rw[ht])
theorem d9{body:CS}{v:PV}(hl:args.length=params.length)(h:body (bX params args λz=>none) σ=some (.ret v,ai,σ))(dD:PV.lt σ.length v=true):cI params body args σ=some (v,σ):=
 mY hl h rfl ⟨cH _,λz z=> .inl rfl⟩ dD (qc)
theorem uS{body:CS}{v:PV}(hl:args.length=params.length)(h:body (bX params args λz=>none) σ=some (.ret v,ai,σ++τ))(dD:PV.lt σ.length v=true):cI params body args σ=some (v,σ):=
 mY hl h rfl (xd σ τ) dD (uA)
open Classical in
theorem Zp{body:CS}{l:List PV}(hl:args.length=params.length)(h:body (bX params args λz=>none) σ=some (.ret (.loc σ.length),ai,σ++ .list l::τ))(dD:eE σ.length l=true):cI params body args σ=some (.lst l,σ):=by
 unfold cI;rw[aP hl,h];show(if nh σ _ then(pT σ.length (σ++ .list l::τ) (.loc σ.length)).bind λv=>some (v,(σ++ .list l::τ).take σ.length)else none)=_;rw[aP (xd σ _)];unfold pT;dsimp only;rw[aS (gJ _),fh,uA];show((if eE σ.length l=true then some (PV.lst l)else none).bind _)=_;rw[aP dD];rfl
theorem aO.HZ(ρ:aO)(x:String)(a b:PV):(ρ.set x a).set x b=ρ.set x b:=by
 funext y;unfold aO.set;split<;>rfl
theorem aO.afi(ρ:aO){x y:String}(h:x≠y)(a b c d:PV):(((ρ.set x a).set y b).set x c).set y d=(ρ.set x c).set y d:=by
 funext z;unfold aO.set;by_cases h1:z=y
 ·simp[h1]
 ·by_cases h2:z=x
  ·simp[h2,h]
  ·simp[h1,h2]
theorem jO{n:Nat}{l:List PV}:eE n l=true↔∀p∈l,PV.lt n p=true:=by
 induction l with
 |nil=>exact⟨λz z=>nofun,λz=>rfl⟩
 |cons p l ih=>rw[r9,←ih];exact h8
theorem Ny{l:List PV}(k:Nat)(hk:k=σ.length)(hl:eE σ.length l=true):bQ σ k (ρ,σ++ [.list l])=some (.lst l,σ):=by
 subst hk;unfold bQ pT;rw[aP (xd σ _)];dsimp only;rw[aS (gJ _),fh,uA];show((if eE σ.length l=true then some (PV.lst l)else none).bind _)=_;rw[aP hl];rfl
theorem Aj(kz:Nat)(bF:CT)(cv:CB)(em:CL)(l:List PV):hG false kz bF cv em l=hG false 0 bF cv em l:=by
 induction l with
 |nil=>rfl
 |cons p l ih=>exact bV (λ(f:CL) ρ τ=>(bF p ρ τ).bind λr=>(cv r.1 r.2).bind λb=>(if b.1=true then em r.1 b.2 else some (r.1,b.2)).bind λq=>if gd false 0 q.2=true then f q.1 q.2 else none) ih
theorem Zq{em:CL}{p:PV}{l:List PV}{j7:aO}{yo ud:ah}(h1:bF p ρ σ=some (j7,yo))(h2:cv j7 yo=some (false,ud)):hG false k bF cv em (p::l) ρ σ=hG false k bF cv em l j7 ud:=(bb h1).trans (bb h2)
theorem Xn{em:CL}{p:PV}{l:List PV}{j7 hZ:aO}{yo ud SQ:ah}(h1:bF p ρ σ=some (j7,yo))(h2:cv j7 yo=some (true,ud))(h3:em j7 ud=some (hZ,SQ)):hG false k bF cv em (p::l) ρ σ=hG false k bF cv em l hZ SQ:=(bb h1).trans ((bb h2).trans (bb h3))
theorem MN{G:aO→Prop}{enc:β→PV}{mB:β→aO}{f:β→PV}{t:β→Bool}{e:CE}{xs:List β}(h0:∀x∈xs,G (mB x)∧∀ρ,G ρ→∀τ,bF (enc x) ρ τ=some (mB x,τ))
 (ht:∀x∈xs,∀l,cv (mB x) (σ++ [.list l])=some (t x,σ++ [.list l])) (he:∀x∈xs,t x=true→∀l,e (mB x) (σ++ [.list l])=some (f x,σ++ [.list l])):∀(acc:List PV) (ρ:aO),G ρ→acc.length+xs.length≤1000000→
 ∃kA,hG false 0 bF cv (bK e σ.length) (xs.map enc) ρ (σ++ [PO.list acc])=some (kA,σ++ [.list (acc++(xs.filter t).map f)]):=by
 induction xs with
 |nil=>exact λacc ρ w w=>⟨ρ,by rw[Dj,gy];rfl⟩
 |cons x l ih=>
  refine λacc ρ g hz=> ?_;have h:=h0 x (.head _);have yp:=ht x (.head _) acc;have ih:=ih (λy m=>h0 y (.tail _ m)) (λy m=>ht y (.tail _ m)) λy m=>he y (.tail _ m);cases yq:t x with
  |false=>
   rw[List.filter_cons_of_neg (by simp[yq])];exact(ih acc _ h.1 (uE hz)).imp λkA h'=>(Zq (h.2 ρ g _) (yq▸yp)).trans h'
  |true=>
   rw[List.filter_cons_of_pos yq,show acc++(x::l.filter t).map f=acc++ [f x]++(l.filter t).map f from List.append_cons ..];exact(ih (acc++ [f x]) _ h.1 (by rw[oO];exact ao (bM (fS _ 1 _)) hz)).imp λkA h'=>(Xn (h.2 ρ g (σ++ [.list acc])) (yq▸yp) ((Av (he x (.head _) yq acc) (fh _ _ _) (cQ (b:=1) (ao (ao (bH (bR _ _) 1) hz) (aK rfl)))).trans (bV (λz=>some (mB x,z)) (iD _ _ _ _)))).trans h'
theorem EC(xs:List β)(enc:β→PV)(mB:β→aO)(f:β→PV)(t:β→Bool){e:CE}(hit:it ρ σ=some (xs.map enc,σ))(bJ:xs.length≤1000000)
 (h0:∀x∈xs,∀τ,bF (enc x) (ρ.drop tg) τ=some (mB x,τ)) (h1:∀y∈xs,∀x∈xs,∀τ,bF (enc x) (mB y) τ=some (mB x,τ))
 (ht:∀x∈xs,∀l,cv (mB x) (σ++ [.list l])=some (t x,σ++ [.list l])) (he:∀x∈xs,t x=true→∀l,e (mB x) (σ++ [.list l])=some (f x,σ++ [.list l]))
 (hf:∀x∈xs,t x=true→PV.lt σ.length (f x)=true):
 runC false tg it bF cv (λk=>bK e k) bQ ρ σ=some (.lst ((xs.filter t).map f),σ):=by
 refine bG (MN (G:=λρ=>∀x∈xs,∀τ,bF (enc x) ρ τ=some (mB x,τ)) (λx m=>⟨h1 x m,λρ g=>g x m⟩) ht he [] (ρ.drop tg) h0 ((Nat.zero_add _).symm▸bJ)) λkA h=> ?_;rw[List.nil_append]at h;unfold runC;rw[hit];show((hG false (σ.length-1) bF cv (bK e σ.length) (xs.map enc) (ρ.drop tg) (σ++ [.list []])).bind λq=>bQ σ σ.length q)=_;rw[Aj,h];show bQ σ σ.length (kA,σ++ [PO.list _])=_;rw[Ny _ rfl];rw[jO];intro p hp;(refine aT (dR.mp hp) λq hq aM=> ?_;clear hp;subst aM);refine cM (ib.mp hq) λq1 q2=> ?_;exact hf q q1 q2
theorem aba(xs:List β)(enc:β→PV)(f:β→PV){x:String}{e:CE}(hit:it ρ σ=some (xs.map enc,σ))(bJ:xs.length≤1000000)
 (he:∀y∈xs,∀l,e ((ρ.drop [".0",x]).set x (enc y)) (σ++ [.list l])=some (f y,σ++ [.list l])):
 runC false [".0",x] it (a8 x) (λw σ=>some (true,σ)) (λk=>bK e k) xq ρ σ=some (.loc σ.length,σ++ [.list (xs.map f)]):=by
 refine bG (MN (G:=λr=>∃v,r=ρ.drop [".0",x]∨r=(ρ.drop [".0",x]).set x v) (enc:=enc) (mB:=λy=>(ρ.drop [".0",x]).set x (enc y)) (f:=f) (t:=λw=>true) (bF:=a8 x) (cv:=λw σ=>some (true,σ)) (λy w=>⟨⟨_,.inr rfl⟩,λr g τ=>bG g λv g=>g.elim (λz=>z▸rfl) λz=>by rw[z];unfold a8;rw[aO.HZ]⟩) (λw w w=>rfl) (λy hy w=>he y hy) [] _ ⟨.none,.inl rfl⟩ ((Nat.zero_add _).symm▸bJ)) λkA h=> ?_;rw[List.nil_append]at h;unfold runC;rw[hit];show((hG false (σ.length-1) _ _ (bK e σ.length) (xs.map enc) (ρ.drop [".0",x]) (σ++ [.list []])).bind λq=>xq σ σ.length q)=_;rw[Aj,h,yG.mpr (λw w=>rfl)];rfl
theorem n6(xs:List β)(enc:β→PV)(f:β→PV){x:String}{e:CE}(hit:it ρ σ=some (xs.map enc,σ))(bJ:xs.length≤1000000)
 (he:∀y∈xs,∀l,e ((ρ.drop [".0",x]).set x (enc y)) (σ++ [.list l])=some (f y,σ++ [.list l])) (hf:∀x∈xs,PV.lt σ.length (f x)=true):
 runC false [".0",x] it (a8 x) (λw σ=>some (true,σ)) (λk=>bK e k) bQ ρ σ=some (.lst (xs.map f),σ):=by
 have:=EC (ρ:=ρ) (σ:=σ) (tg:= [".0",x]) xs enc (λy=>(ρ.drop [".0",x]).set x (enc y)) f (λw=>true) (bF:=a8 x) (cv:=λw σ=>some (true,σ)) (e:=e) hit bJ (λw w w=>rfl) (λy w z w τ=>by unfold a8;rw[aO.HZ]) (λw w w=>rfl) (λy hy w=>he y hy) (λy hy w=>hf y hy);rw[this,yG.mpr (λw w=>rfl)]
theorem jL(xs:List β)(enc:β→PV)(f:β→PV)(t:β→Bool){x:String}{e:CE}(hit:it ρ σ=some (xs.map enc,σ))(bJ:xs.length≤1000000)
 (ht:∀y∈xs,∀l,cv ((ρ.drop [".0",x]).set x (enc y)) (σ++ [.list l])=some (t y,σ++ [.list l])) (he:∀y∈xs,t y=true→∀l,e ((ρ.drop [".0",x]).set x (enc y)) (σ++ [.list l])=some (f y,σ++ [.list l])) (hf:∀x∈xs,t x=true→PV.lt σ.length (f x)=true):
 runC false [".0",x] it (a8 x) cv (λk=>bK e k) bQ ρ σ=some (.lst ((xs.filter t).map f),σ):=
 EC xs enc (λy=>(ρ.drop [".0",x]).set x (enc y)) f t hit bJ (λw w w=>rfl) (λy w z w τ=>by unfold a8;rw[aO.HZ]) ht he hf
theorem DY(xs:List β)(e1 e2:β→PV)(f:β→PV)(t:β→Bool){x y:String}(hxy:x≠y){e:CE}(hit:it ρ σ=some (xs.map (λb=> .tup [e1 b,e2 b]),σ))(bJ:xs.length≤1000000)
 (ht:∀b∈xs,∀l,cv (((ρ.drop [".0",x,y]).set x (e1 b)).set y (e2 b)) (σ++ [.list l])=some (t b,σ++ [.list l])) (he:∀b∈xs,t b=true→∀l,e (((ρ.drop [".0",x,y]).set x (e1 b)).set y (e2 b)) (σ++ [.list l])=some (f b,σ++ [.list l])) (hf:∀x∈xs,t x=true→PV.lt σ.length (f x)=true):
 runC false [".0",x,y] it (gP [a8 x,a8 y]) cv (λk=>bK e k) bQ ρ σ=some (.lst ((xs.filter t).map f),σ):=
 EC xs (λb=> .tup [e1 b,e2 b]) (λb=>((ρ.drop [".0",x,y]).set x (e1 b)).set y (e2 b)) f t hit bJ (λz z z=>rfl) (λb z c z τ=>by
  show some ((((((ρ.drop [".0",x,y]).set x (e1 b)).set y (e2 b)).set x (e1 c)).set y (e2 c)),τ)=_;rw[aO.afi _ hxy]) ht he hf
end
noncomputable abbrev Dm:=List (Int×Int)
noncomputable def eD(d:Dm):PV:= .tup (d.map λq=> .tup [.int q.1,.int q.2])
noncomputable def upTo(d:Dm)(k:Int):Dm:=(d.filter λq=>decide (q.1≤k)).map λq=>(q.1,min q.2 k)
noncomputable def pj(d:Dm)(k:Int):Dm:=(d.filter λq=>decide (q.2≥k)).map λq=>(max q.1 k,q.2)
noncomputable def nj:Dm→Int→Dm
 | [],_=> []
 |q::d,k=>if q.2<k then nj d k else if q.1≤k then [(k,k)]else []
noncomputable def eV(s:String)(k:Int)(d:Dm):Dm:=if s="<=" then upTo d k else if s=">=" then pj d k else if s="=" then nj d k else upTo d (k-1)++pj d (k+1)
theorem n7{n:Nat}{l:List β}{f:β→PV}(h:∀x∈l,PV.lt n (f x)=true):eE n (l.map f)=true:=by
 rw[jO];intro p hp;obtain⟨x,hx,rfl⟩:=dR.mp hp;exact h x hx
theorem l4(n:Nat)(d:Dm):PV.lt n (eD d)=true:=by
 exact n7 λz z=>rfl
theorem yM(p:β→Bool)(l:List β):(l.filter p).length≤l.length:=p8 ..
section
variable{σ:ah}
theorem Nz(d:Dm)(k:Int)(hd:d.length≤1000):Ah [eD d,.int k] σ=some (eD (upTo d k),σ):=by
 refine d9 (ai:=_) rfl (bS (dE ((bp (aV (DY d (λq=> .int q.1) (λq=> .int q.2) (λq=> .tup [.int q.1,.int (min q.2 k)]) (λq=>decide (q.1≤k)) (by decide) rfl (ao hd (by decide)) (λz z z=>rfl) (λz z z z=>rfl) λz z z=>rfl))).trans ?_))) (l4 _ _);show(if _ then _ else _)=_;rw[aP (.inr (by rw[bB];exact ao (yM ..) (ao hd (by decide))))];unfold eD upTo;rw[kH];rfl
theorem Ma(d:Dm)(k:Int)(hd:d.length≤1000):zH [eD d,.int k] σ=some (eD (pj d k),σ):=by
 refine d9 (ai:=_) rfl (bS (dE ((bp (aV (DY d (λq=> .int q.1) (λq=> .int q.2) (λq=> .tup [.int (max q.1 k),.int q.2]) (λq=>decide (q.2≥k)) (by decide) rfl (ao hd (by decide)) (λz z z=>rfl) (λz z z z=>rfl) λz z z=>rfl))).trans ?_))) (l4 _ _);show(if _ then _ else _)=_;rw[aP (.inr (by rw[bB];exact ao (yM ..) (ao hd (by decide))))];unfold eD pj;rw[kH];rfl
theorem Xo(d:Dm)(k:Int)(hd:d.length≤1000):DL [eD d,.int k] σ=some (eD (upTo d (k-1)++pj d (k+1)),σ):=by
 refine d9 (ai:=_) rfl (bS (dE ((da ((bp rfl).trans (Nz d (k-1) hd)) ((bp rfl).trans (Ma d (k+1) hd))).trans ?_))) (l4 _ _);show(if _ then _ else _)=_;rw[aP]
 ·unfold eD;rw[mO]
 ·have h1:=yM (λq:Int×Int=>decide (q.1≤k-1)) d;have h2:=yM (λq:Int×Int=>decide (q.2≥k+1)) d;simp only[bB,upTo,pj];omega
theorem zx(p:PV){b:Bool}(h:(qA "int" p).bind (λx=>if x then(qA "bool" p).map (!·)else some false)=some b):js [p] σ=some (.bool b,σ):=by
 (refine c4 h λx h1 h2=> ?_;clear h);have hb:(gN "int" (af "thing")) (bX ["thing"] [p] λz=>none) σ=some (.bool x,σ):=bb h1;cases x with
 |false=>(refine cj h2 λaL=> ?_;clear h2;subst aL);exact d9 (ai:=_) rfl (bS (dE (dz (fY (dn hb))))) rfl
 |true=>
  (refine iX h2 λy h3 aL=> ?_;clear h2;subst aL);have qU:(gN "bool" (af "thing")) (bX ["thing"] [p] λz=>none) σ=some (.bool y,σ):=bb h3;refine d9 (ai:=_) rfl (bS (dE (dz ((eJ (dn hb)).trans ?_)))) rfl;cases y with
  |false=>exact(eJ (dn (dz (fj (dn qU))))).trans rfl
  |true=>exact(fY (dn (dz (fj (dn qU))))).trans rfl
noncomputable def jE(l:K3):K3:=if l.2.1="<=" then(l.1,">=",l.2.2+1)else if l.2.1=">=" then(l.1,"<=",l.2.2-1)else if l.2.1="=" then(l.1,"!=",l.2.2)else(l.1,"=",l.2.2)
def jk(s:String):Prop:=s="<="∨s=">="∨s="="∨s="!="
theorem Wr{l:K3}(hs:jk l.2.1):Dz [l.pv] σ=some ((jE l).pv,σ):=by
 obtain⟨x,s,k⟩:=l;rcases hs with rfl|rfl|rfl|rfl
 ·exact d9 (ai:=_) rfl (by rfl) rfl
 ·exact d9 (ai:=_) rfl (by rfl) rfl
 ·exact d9 (ai:=_) rfl (by rfl) rfl
 ·exact d9 (ai:=_) rfl (by rfl) rfl
end
theorem Lh{n:Nat}(h:i<n):(if(decide ((0:Int)≤i)&&decide ((i:Int)<n))=true then some (i:Int).toNat else none)=some i:=aP (h8.mpr ⟨bN (sa i),bN (gg.mpr h)⟩)
theorem Vn{n:Nat}(h:i<n):sF (i:Int) n=some i:=by
 exact Lh h
theorem rp{l:List PV}{v:PV}(h:l[i]? =some v)(hz:i<1000000):sZ l (i:Int)=some v:=by
 refine bG (fe.mp h) λhi z=> ?_;unfold sZ;rw[aP (⟨(dS (gV (by decide) (sa _))),(oX (gg.mpr hz) (by decide))⟩),Vn hi];exact h
variable{aA:aO}{d:Dm}
section
variable{ρ ai:aO}{σ aq τ:ah}
theorem aj{x:String}{v:PV}(h:ρ x=some v):af x ρ σ=some (v,σ):=bb h
theorem adR{l:List PV}{k:Int}:fZ σ (.tup l) (.int k)=sZ l k:=rfl
theorem PH{l:List PV}{k:Int}:fZ σ (.lst l) (.int k)=sZ l k:=rfl
theorem dH{a b:CE}{l:List PV}{v:PV}(h1:a ρ σ=some (.tup l,aq))(h2:b ρ aq=some (.int i,τ))(h3:l[i]? =some v)(hz:i<1000000):aG a b ρ σ=some (v,τ):=dO h1 h2 (adR.trans (rp h3 hz))
theorem gA{a b:CE}{l:List PV}{v:PV}(h1:a ρ σ=some (.lst l,aq))(h2:b ρ aq=some (.int i,τ))(h3:l[i]? =some v)(hz:i<1000000):aG a b ρ σ=some (v,τ):=dO h1 h2 (PH.trans (rp h3 hz))
theorem sQ{t:CB}{b:CS}{n:Nat}(h:t ρ σ=some (false,aq)):gZ t b (n+1) ρ σ=some (.next,ρ,aq):=bb h
theorem qm{t:CB}{b:CS}{n:Nat}(h:t ρ σ=some (true,aq))(h2:b ρ aq=some (.next,ai,τ)):gZ t b (n+1) ρ σ=gZ t b n ai τ:=(bb h).trans (bb h2)
theorem Ek{t:CB}{b:CS}{n:Nat}{v:PV}(h:t ρ σ=some (true,aq))(h2:b ρ aq=some (.ret v,ai,τ)):gZ t b (n+1) ρ σ=some (.ret v,ai,τ):=(bb h).trans (bb h2)
theorem Ak{b:CS}:eU false 0 bF b [] ρ σ=some (.next,ρ,σ):=rfl
theorem ie{b:CS}{p:PV}{l:List PV}(h:bF p ρ σ=some (aA,aq))(h2:b aA aq=some (.next,ai,τ)):eU false 0 bF b (p::l) ρ σ=eU false 0 bF b l ai τ:=(bb h).trans (bb h2)
theorem MO{b:CS}{p:PV}{l:List PV}(h:bF p ρ σ=some (aA,aq))(h2:b aA aq=some (.cont,ai,τ)):eU false 0 bF b (p::l) ρ σ=eU false 0 bF b l ai τ:=(bb h).trans (bb h2)
theorem abb{b:CS}{p:PV}{l:List PV}(h:bF p ρ σ=some (aA,aq))(h2:b aA aq=some (.brk,ai,τ)):eU false 0 bF b (p::l) ρ σ=some (.next,ai,τ):=(bb h).trans (bb h2)
theorem pd{b:CS}{p:PV}{l:List PV}{v:PV}(h:bF p ρ σ=some (aA,aq))(h2:b aA aq=some (.ret v,ai,τ)):eU false 0 bF b (p::l) ρ σ=some (.ret v,ai,τ):=(bb h).trans (bb h2)
theorem PJ{l:List PV}{p:PV}(h:σ[k]? =some (.list l))(hz:l.length≤1000000):oB [.loc k,p] σ=some (.none,σ.set k (.list (l++ [p]))):=aci h hz
theorem ty_list{l:List PV}(h:σ[k]? =some (.list l)):nr "list" σ (.loc k)=true:=by
 unfold nr;dsimp only;rw[h];rfl
theorem uU{o:CE}{e:CE}{l:List PV}{p:PV}(h1:o ρ σ=some (.loc k,σ))(h2:e ρ σ=some (p,σ))(h:σ[k]? =some (.list l))(hz:l.length≤1000000):lq (jF o "list" oB [e]) ρ σ=some (.next,ρ,σ.set k (.list (l++ [p]))):=
 xj ((vF h1 (ty_list h) (aV h2)).trans (PJ h hz))
theorem Om{q:Int×Int}(h:d[i]? =some q):(d.map λq=>PV.tup [.int q.1,.int q.2])[i]? =some (.tup [.int q.1,.int q.2]):=by
 rw[eM,h];rfl
abbrev GI:CB:=fk [(aJ hU (af "i") (aN cq [(af "d")])),(aJ hU (af "j") (aN cq [(af "e")]))]
abbrev A1:CS:=Qu
theorem ko{l:List PV}(h:l.length<1000000000):cq [.tup l] σ=some (.int l.length,σ):=aP h
theorem Xp(d:Dm)(k:Int)(hd:d.length≤500):∀(m i n:Nat) (ρ:aO),i+m=d.length→m+2≤n→ρ "d"=some (eD d)→ρ "e"=some (eD [(k,k)])→ρ "found"=some (.loc σ.length)→ρ "i"=some (.int i)→ρ "j"=some (.int 0)→
 ∃ai,gZ GI A1 n ρ (σ++ [.list []])=some (.next,ai,σ++ [.list ((nj (d.drop i) k).map λq=> .tup [.int q.1,.int q.2])])∧ai "found"=some (.loc σ.length):=by
 intro m
 induction m with
 |zero=>
  intro i n ρ hi hn qQ he hf hI hJ;obtain⟨n,rfl⟩:∃n',n=n'+1:=⟨n-1,(JY (cQ (b:=1) (ao hn (bR _ 1)))).symm⟩;refine⟨ρ,?_,hf⟩;rw[sQ (aq:=σ++ [.list []]),JC (by exact bM hi.symm)]
  ·rfl
  ·refine fY (aX (aj hI) ((bp (aV (aj qQ))).trans (ko (by rw[bB];exact ao (bH hd 1) (aK rfl)))) ?_);show some (decide ((i:Int)<((d.map _).length:Nat)))=some false;rw[bB,bT (by lia)]
 |succ m ih=>
  intro i n ρ hi hn qQ he hf hI hJ;obtain⟨n,rfl⟩:∃n',n=n'+1:=⟨n-1,(JY (cQ (b:=2) (ao (ao (bH (eH _) 3) hn) (bR _ 2)))).symm⟩;have dD:i<d.length:=ao (bH (bR _ _) 1) (bM hi);have hg:d[i]? =some d[i]:=cF dD;have ht:GI ρ (σ++ [.list []])=some (true,σ++ [.list []]):=by
   refine(eJ (aX (aj hI) ((bp (aV (aj qQ))).trans (ko (by rw[bB];exact ao (bH hd 1) (aK rfl)))) ?_)).trans ((eJ (aX (aj hJ) ((bp (aV (aj he))).trans rfl) rfl)).trans rfl);show some (decide ((i:Int)<((d.map _).length:Nat)))=some true;rw[bB,bN (gg.mpr dD)]
  rw[Jm dD];generalize d[i]=q at hg;obtain⟨l,h⟩:=q;have gi:∀{τ:ah},aG (af "d") (af "i") ρ τ=some (.tup [.int l,.int h],τ):=dH (aj qQ) (aj hI) (Om hg) (ao (ao dD hd) (aK rfl));have gj:∀{τ:ah},aG (af "e") (af "j") ρ τ=some (.tup [.int k,.int k],τ):=dH (aj he) (aj hJ) rfl (by decide);have pX:iH ["low","high"] Qs ρ (σ++ [.list []])=
   some (.next,(ρ.set "high" (.int (min h k))).set "low" (.int (max l k)),σ++ [.list []]):=
   (bb (d3 (bC ((bp (bC (dO gi rfl rfl) (aV (dO gj rfl rfl)))).trans rfl) (aV ((bp (bC (dO gi rfl rfl) (aV (dO gj rfl rfl)))).trans rfl))))).trans rfl
  generalize aZ:(ρ.set "high" (.int (min h k))).set "low" (.int (max l k))=aA at pX;have rZ:aA "d"=some (eD d):=aZ▸qQ;have IJ:aA "e"=some (eD [(k,k)]):=aZ▸he;have wb:aA "found"=some (.loc σ.length):=aZ▸hf;have IK:aA "i"=some (.int i):=aZ▸hI;have IL:aA "j"=some (.int 0):=aZ▸hJ;have BW:aA "low"=some (.int (max l k)):=aZ▸rfl;have BX:aA "high"=some (.int (min h k)):=aZ▸rfl;have SR:∀{τ:ah},aG (aG (af "d") (af "i")) (aw 1) aA τ=some (.int h,τ):=λ{τ}=>dO (dH (aj rZ) (aj IK) (Om hg) (ao (ao dD hd) (aK rfl))) rfl rfl;have SU:∀{τ:ah},aG (aG (af "e") (af "j")) (aw 1) aA τ=some (.int k,τ):=λ{τ}=>dO (dH (aj IJ) (aj IL) rfl (by decide)) rfl rfl;by_cases hk:h<k
  ·
    have b1:A1 ρ (σ++ [.list []])=some (.next,aA.set "i" (.int (i+1)),σ++ [.list []]):=by
     refine(aR pX).trans ((aR ((bZ (aX (aj BW) (aj BX) ?_)).trans rfl)).trans ((aR ((cT (aX SR SU ?_)).trans (aR (cf ((da (aj IK) rfl).trans rfl))))).trans rfl))
     ·show some (decide _)=_;rw[bT (λz=>bP hk (lQ.mpr (oY (Int.le_max_right l k) (oY z (Int.min_le_left h k)))))]
     ·show some (decide _)=_;rw[bN hk]
    rw[qm ht b1];refine aT (ih (i+1) n (aA.set "i" (.int (i+1))) (k7 (ao (bM (fS _ 1 _)) (bM hi)) (ao (bM hi.symm) (bM (fS _ 1 _).symm))) (cQ (b:=1) hn) rZ IJ wb rfl IL) λai h1 h2=> ?_;exact⟨ai,by rw[h1,show nj ((l,h)::d.drop (i+1)) k=nj (d.drop (i+1)) k from aP hk],h2⟩
  ·
    have key:∀(acc:List PV),A1 ρ (σ++ [.list []])=some (.next,aA.set "j" (.int 1),σ++ [.list acc])→∃ai,gZ GI A1 (n+1) ρ (σ++ [.list []])=some (.next,ai,σ++ [.list acc])∧ai "found"=some (.loc σ.length):=by
     intro acc b1;refine⟨aA.set "j" (.int 1),?_,wb⟩;rw[qm ht b1];obtain⟨n,rfl⟩:∃n',n=n'+1:=⟨n-1,(JY (cQ (b:=2) (ao (ao (bH (eH _) 3) hn) (bR _ 1)))).symm⟩;refine sQ ?_;have hI2:(aA.set "j" (.int 1)) "i"=some (.int i):=IK;have he2:(aA.set "j" (.int 1)) "e"=some (eD [(k,k)]):=IJ;refine(eJ (aX (aj hI2) ((bp (aV (aj rZ))).trans (ko (by rw[bB];exact ao (bH hd 1) (aK rfl)))) ?_)).trans ((fY (aX (aj rfl) ((bp (aV (aj he2))).trans rfl) rfl)).trans rfl);show some (decide ((i:Int)<((d.map _).length:Nat)))=some true;rw[bB,bN (gg.mpr dD)]
    have tail:∀(acc:List PV),ak Qt aC aA (σ++ [.list acc])=some (.next,aA.set "j" (.int 1),σ++ [.list acc]):=by
     intro acc;refine(aR ((bZ (aX SR SU ?_)).trans (aR (cf ((da (aj IL) rfl).trans rfl))))).trans rfl;show some (decide _)=_;rw[bT hk]
    by_cases hl:l≤k
    ·have em:nj ((l,h)::d.drop (i+1)) k= [(k,k)]:=(aS hk).trans (aP hl);rw[em];refine key _ ((aR pX).trans ((aR ((cT (aX (aj BW) (aj BX) ?_)).trans (aR (uU (aj wb) (d3 (bC (aj BW) (aV (aj BX)))) (fh _ _ _) (eH _))))).trans ?_))
     ·show some (decide _)=_;rw[bN (Int.le_of_eq ((wo hl).trans (J9 (lQ.mp hk)).symm))]
     ·rw[iD];rw[(wo hl),(by exact J9 (lQ.mp hk):min h k=k)];exact tail _
    ·have em:nj ((l,h)::d.drop (i+1)) k= []:=(aS hk).trans (aS hl);rw[em];refine key _ ((aR pX).trans ((aR ((bZ (aX (aj BW) (aj BX) ?_)).trans rfl)).trans (tail _)));show some (decide _)=_;rw[bT (λz=>hl (oY (Int.le_max_left l k) (oY z (Int.min_le_right h k))))]
theorem acK(d:Dm)(k:Int)(hd:d.length≤500):EA [eD d,eD [(k,k)]] σ=some (eD (nj d k),σ):=by
 refine aT (Xp (σ:=σ) d k hd d.length 0 1000 ((((bX ["d","e"] [eD d,eD [(k,k)]] λz=>none).set "j" (.int 0)).set "i" (.int 0)).set "found" (.loc σ.length)) (Nat.zero_add _) (ao (bH hd 2) (aK rfl)) rfl rfl rfl rfl rfl) λai h1 h2=> ?_;refine uS (τ:= [.list ((nj d k).map λq=> .tup [.int q.1,.int q.2])]) (ai:=ai) rfl ((aR (bb rfl)).trans ((aR h1).trans (bS (dE ((bp (aV (aj h2))).trans ?_))))) (l4 _ _);unfold jv pW;unfold dp;dsimp only;rw[fh];show(if _ then _ else _)=_;rw[aP]
 ·rfl
 ·refine .inr ?_;rw[bB];have:∀d:Dm,(nj d k).length≤1:=λd=>by
   induction d with
   |nil=>exact eH _
   |cons q d ih=>
    by_cases h1:q.2<k
    ·exact ao (bM (bV su (aP h1))) ih
    ·refine ao (bM (bV su (aS h1))) ?_;by_cases h2:q.1≤k
     ·exact bM (bV su (aP h2))
     ·exact ao (bM (bV su (aS h2))) (eH _)
  exact ao (this _) (by decide)
theorem Zr{l:K3}(hs:jk l.2.1)(d:Dm)(hd:d.length≤500):zV [l.pv,eD d] σ=some (eD (eV l.2.1 l.2.2 d),σ):=by
 obtain⟨x,s,k⟩:=l;rcases hs with rfl|rfl|rfl|rfl
 ·exact d9 (ai:=_) rfl ((aR (bb rfl)).trans (bS ((cT (aX rfl rfl rfl)).trans (bS (dE ((bp rfl).trans (Nz d k (ao hd (aK rfl))))))))) (l4 _ _)
 ·exact d9 (ai:=_) rfl ((aR (bb rfl)).trans ((aR ((bZ (aX rfl rfl rfl)).trans rfl)).trans (bS ((cT (aX rfl rfl rfl)).trans (bS (dE ((bp rfl).trans (Ma d k (ao hd (aK rfl)))))))))) (l4 _ _)
 ·exact d9 (ai:=_) rfl ((aR (bb rfl)).trans ((aR ((bZ (aX rfl rfl rfl)).trans rfl)).trans ((aR ((bZ (aX rfl rfl rfl)).trans rfl)).trans (bS (dE ((iJ (aX rfl rfl rfl)).trans ((bp rfl).trans (acK d k hd)))))))) (l4 _ _)
 ·exact d9 (ai:=_) rfl ((aR (bb rfl)).trans ((aR ((bZ (aX rfl rfl rfl)).trans rfl)).trans ((aR ((bZ (aX rfl rfl rfl)).trans rfl)).trans (bS (dE ((gC (aX rfl rfl rfl)).trans ((bp rfl).trans (Xo d k (ao hd (aK rfl)))))))))) (l4 _ _)
end
noncomputable def IM(r:List PV→Bool):PV→Bool
 | .none=>true
 | .int _=>true
 | .str _=>true
 | .tup l=>r l
 | .lst l=>r l
 |_=>false
noncomputable def Pl:Nat→PV→Bool
 |0=>IM λz=>false
 |n+1=>IM λl=>l.all (Pl n)
abbrev mE(n:Nat)(l:List PV):Bool:=l.all (Pl n)
theorem kg{n:Nat}{l:List PV}:mE n l=true↔∀p∈l,Pl n p=true:=fU
theorem NA(x:String):mR (S x)=true:=by
 show(lg x).cps.all (· <0x110000)=true;rw[JB];refine Array.all_eq_true'.mpr λc hc=>bN ?_;(refine aT (dR.mp (List.mem_toArray.mp hc)) λc z aM=> ?_;subst aM);exact c.valid.elim (λh=>Di h (by decide)) λh=>h.2
def IP(n:Nat)(p:PV):Prop:=∃d,p.py=some (kqdP d)∧kqdOk n d=true∧∀q,q.py=some (kqdP d)→q=p
theorem NB{n:Nat}{r:List PV→Bool}{p:PV}(h:IM r p=true)(hr:∀l,r l=true→∃ds,jZ l=some (kqdPs ds)∧kqdOk n (.tuple ds)=true∧kqdOk n (.list ds)=true∧∀l',jZ l'=some (kqdPs ds)→l'=l)(h0:kqdOk n .none=true)(hi:∀i,kqdOk n (.int i)=true)(hs:∀x,kqdOk n (.str (S x))=true):IP n p:=by
 have nm:∀{o:Option (List lV)} {f:List lV→lV} {d:lV} {G:Prop},o.map f=some d→(∀ds,f ds=d→G)→G:=λe k=>iX e λds y e=>k ds e;cases p with
 |none=>exact⟨.none,rfl,h0,λq e=>by cases q<;>first|rfl|exact nm e (λy=>nofun)|exact aQ e|exact nomatch c8 e⟩
 |int i=>exact⟨.int i,rfl,hi i,λq e=>by cases q<;>first|exact bV PV.int (PyData.int.inj (c8 e))|exact nm e (λy=>nofun)|exact aQ e|exact nomatch c8 e⟩
 |str x=>exact⟨.str (S x),rfl,hs x,λq e=>by cases q<;>first|exact bV PV.str (jz (PyData.str.inj (c8 e)))|exact nm e (λy=>nofun)|exact aQ e|exact nomatch c8 e⟩
 |tup l=>exact l5 (hr l h) λds e1 e2 y e4=>⟨.tuple ds,bV (sD wI) e1,e2,λq e=>by cases q<;>first|exact iX e λy z e=>bV PV.tup (e4 _ (z.trans (bV some (PyData.tuple.inj e))))|exact nm e (λy=>nofun)|exact aQ e|exact nomatch c8 e⟩
 |lst l=>exact l5 (hr l h) λds e1 y e3 e4=>⟨.list ds,bV (sD wL) e1,e3,λq e=>by cases q<;>first|exact iX e λy z e=>bV PV.lst (e4 _ (z.trans (bV some (PyData.list.inj e))))|exact nm e (λy=>nofun)|exact aQ e|exact nomatch c8 e⟩
 |_=>exact cL h
theorem ND{n:Nat}(H:∀p,Pl n p=true→IP n p)(l:List PV)(h:mE n l=true):∃ds:List Dat,jZ l=some (kqdPs ds)∧ds.all (kqdOk n)=true∧∀l',jZ l'=some (kqdPs ds)→l'=l:=by
 induction l with
 |nil=>exact⟨[],rfl,rfl,λl' e=>by cases l' with|nil=>rfl|cons p l=>exact c4 e λz z e=>iX e λz z=>nofun⟩
 |cons p l ih=>
  have h:=h8.mp h;refine cY (H p h.1) λd a1 a2 a3=>cY (ih h.2) λds b1 b2 b3=>⟨d::ds,?_,h8.mpr ⟨a2,b2⟩,λl' e=> ?_⟩
  ·show p.py.bind _=_;rw[a1];exact bV (sD (kqdP d::·)) b1
  ·cases l' with
   |nil=>exact nomatch c8 e
   |cons q l'=>exact c4 e λx e1 e=>iX e λy e2 e=>by rw[a3 q (e1.trans (bV some (nS e).1)),b3 l' (e2.trans (bV some (nS e).2))]
theorem Bu{n:Nat}:∀p,Pl n p=true→IP n p:=by
 induction n with
 |zero=>exact λp h=>NB h (λz=>cL) rfl (λz=>rfl) NA
 |succ n ih=>exact λp h=>NB h (λl h=>cY (ND ih l h) λds a b c=>⟨ds,a,b,b,c⟩) rfl (λz=>rfl) NA
theorem A2{n:Nat}{p:PV}(h:Pl n p=true):∃d,p.py=some d∧d.depth≤n:=cY (Bu p h) λd a b z=>⟨_,a,(kqd_lay n d b).2⟩
theorem Oo{n:Nat}{l:List PV}(h:mE n l=true):∃ds,jZ l=some ds:=cY (ND Bu l h) λz a z z=>⟨_,a⟩
theorem PK(n:Nat){p:PV}{d e:lV}(h:Pl n p=true)(k:Pl m q=true)(hd:p.py=some d)(he:q.py=some e):lP d e=true↔p=q:=by
 refine cY (Bu p h) λx a1 a2 a3=>cY (Bu q k) λy b1 b2 b3=> ?_;rw[←c8 (a1.symm.trans hd),←c8 (b1.symm.trans he)];exact⟨λz=>(a3 q (b1.trans (by rw[(kqd_eqv n x y m a2 b2).mp z]))).symm,λz=>by rw[←c8 (a1.symm.trans ((bV PV.py z).trans b1))];exact SeqAt.eqv_refl _ (kqd_lay n x a2).1⟩
theorem DZ{n:Nat}{p:PV}(h:Pl n p=true):dp σ p=p:=by
 cases p with
 |loc=>cases n<;>exact cL h
 |_=>rfl
open Classical in
theorem PL{n:Nat}{p:PV}(h:Pl n p=true)(k:Pl m q=true)(hn:n≤60):bA σ p q=some (decide (p=q)):=by
 refine aT (A2 h) λd h1 h2=> ?_;refine aT (A2 k) λe h3 h4=> ?_;unfold bA;rw[DZ h,DZ k,h1,h3];show(if min d.depth e.depth≤64 then some (lP d e)else none)=_;rw[aP (ao (ao (ao (Nat.min_le_left _ _) h2) hn) (aK rfl))];congr 1;exact yX.mpr ((PK _ h k h1 h3).trans (by simp))
theorem tq{n:Nat}{p:PV}(h:Pl n p=true)(k:Pl m q=true)(hn:n≤60){b:Bool}(hb:b=true↔p≠q):cA σ p q=some b:=by
 unfold cA;rw[PL h k hn];simp only[k9,CK];refine yX.mpr ?_;simp[hb]
theorem vg{n:Nat}{p:PV}(h:Pl n p=true)(k:Pl m q=true)(hn:n≤60){b:Bool}(hb:b=true↔p=q):bA σ p q=some b:=by
 rw[PL h k hn];simp only[CK];refine yX.mpr ?_;simp[hb]
theorem Oq{n:Nat}{p:PV}{d:lV}(h:Pl n p=true)(h1:p.py=some d):∀{l:List PV} {ds:List lV},mE m l=true→jZ l=some ds→(ds.any (λy=>lP y d)=true↔p∈l):=by
 intro l
 induction l with
 |nil=>intro ds _ e;cases e;exact⟨cL,nofun⟩
 |cons q l ih=>
  intro ds k e;have k:=h8.mp k;refine c4 e λx e1 e=>iX e λxs e2 z=> ?_;rw[←z,uD,uw,PK _ k.1 h e1 h1,ih k.2 e2,cG,eq_comm]
theorem Aw{n:Nat}{p:PV}{l:List PV}(h:Pl n p=true)(k:mE m l=true)(hn:n≤60){b:Bool}(hb:b=true↔p∈l):di σ p (.tup l)=some b:=by
 refine aT (A2 h) λd h1 h2=> ?_;refine bG (Oo k) λds h3=> ?_;show(p.py.bind λd=>(jZ l).bind λxs=>if d.depth≤64 then some (xs.any λy=>lP y d)else none)=_;rw[h1,h3];show(if d.depth≤64 then _ else _)=_;rw[aP (ao (ao h2 hn) (aK rfl))];congr 1;exact yX.mpr ((Oq h h1 k h3).trans hb.symm)
theorem xk{n:Nat}{p:PV}{l:List PV}(hq:dp σ q= .lst l)(h:Pl n p=true)(k:mE m l=true)(hn:n≤60){b:Bool}(hb:b=true↔p∈l):di σ p q=some b:=by
 refine aT (A2 h) λd h1 h2=> ?_;refine bG (Oo k) λds h3=> ?_;unfold di;rw[hq];dsimp only;rw[DZ h,h1,h3];show(if d.depth≤64 then _ else _)=_;rw[aP (ao (ao h2 hn) (aK rfl))];congr 1;exact yX.mpr ((Oq h h1 k h3).trans hb.symm)
theorem not_iff{b:Bool}{P:Prop}(hb:b=true↔¬P):(!b)=true↔P:=by
 rw[rf,←Kd,hb,yN]
theorem wQ{n:Nat}{p:PV}{l:List PV}(h:Pl n p=true)(k:mE m l=true)(hn:n≤60){b:Bool}(hb:b=true↔p∉l):ej σ p (.tup l)=some b:=by
 unfold ej;rw[Aw (b:= !b) h k hn (not_iff hb)];simp
theorem DM{n:Nat}{p:PV}{l:List PV}(hq:dp σ q= .lst l)(h:Pl n p=true)(k:mE m l=true)(hn:n≤60){b:Bool}(hb:b=true↔p∉l):ej σ p q=some b:=by
 unfold ej;rw[xk (b:= !b) hq h k hn (not_iff hb)];simp
noncomputable def vals(d:Dm):List Int:=d.flatMap λq=>(dK (q.2+1-q.1).toNat).map λi=>q.1+(i:Nat)
noncomputable def gE:Dm→Int→Bool
 | [],_=>false
 |q::d,v=>if v≤q.2 then decide (q.1≤v)else gE d v
noncomputable def ou(d:Dm):Int:=(d.map λq=>q.2-q.1+1).foldr (· +·) 0
def SV(d:Dm):Prop:=d.length≤10∧∀q∈d,(-100≤q.1∧q.1≤100)∧ -100≤q.2∧q.2≤100
theorem Dl{l:List PV}{v:PV}(h:l.getLast?=some v):sZ l (-1)=some v:=by
 cases l with
 |nil=>exact aQ h
 |cons x l=>
  unfold sZ;have e:sF (-1) (x::l).length=some l.length:=by
   unfold sF;rw[show(if(-1:Int)<0 then(-1:Int)+((x::l).length:Nat)else-1)=(l.length:Nat)from(aP (by decide)).trans ((Int.add_comm _ _).trans (yJ (l.length:Int) 1))];exact Lh (qb _)
  rw[e,←h,List.getLast?_eq_getElem?];rfl
section
variable{ρ ai:aO}{σ aq τ:ah}
theorem Xq:∀(d:Dm) (ρ:aO) (acc:List PV),ρ "found"=some (.loc σ.length)→(∀q∈d,(-100≤q.1∧q.1≤100)∧ -100≤q.2∧q.2≤100)→acc.length+300*d.length≤100000→
 ∃ai,eU false 0 nC OY (d.map λq=> .tup [.int q.1,.int q.2]) ρ (σ++ [.list acc])=
  some (.next,ai,σ++ [.list (acc++(vals d).map PV.int)])∧ai "found"=some (.loc σ.length):=by
 intro x0
 induction x0 with
 |nil=>exact λρ acc hf z z=>⟨ρ,(bV (λx=>some (Fl.next,ρ,σ++ [PO.list x])) (gy acc)).symm,hf⟩
 |cons q d ih=>
  intro ρ acc hf hs hz;(refine pJ (hs q (.head _)) λaL q4 q2=> ?_;obtain⟨q1,q3⟩:=aL);simp only[jb]at hz;have hr:Bf [.loc σ.length,.d7 q.1 (q.2+1)] (σ++ [.list acc])=some (.none,σ++ [.list (acc++fC q.1 (q.2+1))]):=by
   show((((σ++ [PO.list acc])[σ.length]?).bind tD).bind _)=_;rw[fh];show(if _ then _ else none)=_;rw[aP ⟨bN (⟨(dS (gV (by decide) q1)),(dS (i9 q3 (by decide)))⟩),bN (by lia),by lia⟩,iD]
  have wb:((ρ.set "low" (.int q.1)).set "high" (.int q.2)) "found"=some (.loc σ.length):=hf;obtain⟨ai,h1,h2⟩:=ih ((ρ.set "low" (.int q.1)).set "high" (.int q.2)) (acc++fC q.1 (q.2+1)) wb (λq hq=>hs q (.tail _ ‹_›)) (by unfold fC;simp;lia);refine⟨ai,?_,h2⟩;refine(ie (aA:=(ρ.set "low" (.int q.1)).set "high" (.int q.2)) (ai:=(ρ.set "low" (.int q.1)).set "high" (.int q.2)) rfl ((aR (xj ((vF (aj wb) (ty_list (fh _ _ _)) (aV rfl)).trans hr))).trans rfl)).trans ?_;rw[h1];simp only[vals,CM,mO,jo,kH];rfl
theorem Zs(d:Dm)(hs:SV d):wX [eD d] σ=some (.lst ((vals d).map PV.int),σ):=by
 obtain⟨ai,h1,h2⟩:=Xq (σ:=σ) d ((bX ["d"] [eD d] λw=>none).set "found" (.loc σ.length)) [] rfl hs.2 (by have:=hs.1;simp;lia);refine Zp (ai:=ai) (τ:= []) rfl ((aR ((bZ (aq:=σ) ?_).trans rfl)).trans ((aR (bb rfl)).trans ((aR ((gk rfl).trans h1)).trans (bS (dE (aj h2)))))) (n7 λw w=>rfl);cases d with
 |nil=>exact fY (aX rfl rfl rfl)
 |cons q d=>
  have hl:((q::d).map λq=>PV.tup [.int q.1,.int q.2]).getLast?=some (.tup [.int ((q::d).getLast nofun).1,.int ((q::d).getLast nofun).2]):=by
   rw[List.getLast?_map];rfl
  have hb:=hs.2 _ (List.getLast_mem (l:=q::d) nofun);have ha:=hs.2 q (.head _);generalize(q::d).getLast nofun=z at hl hb;have hd:∀{τ:ah},af "d" (bX ["d"] [eD (q::d)] λw=>none) τ=some (eD (q::d),τ):=rfl;refine(eJ (aX hd rfl (tq (n:=3) (m:=1) (by
   exact kg.mpr λp hp=>by obtain⟨x,_,rfl⟩:=dR.mp hp;rfl) rfl (by decide) (b:=true) (by simp[eD])))).trans (fY (aX (x:= .int (z.2-q.1)) ((da (dO (x:= .tup [.int z.1,.int z.2]) (y:= .int 1) (dO (x:=eD (q::d)) (y:= .int (-1)) hd rfl (Dl hl)) rfl rfl:aG (aG (af "d") (mh l6 (aw 1))) (aw 1) (bX ["d"] [eD (q::d)] λw=>none) σ=some (.int z.2,σ)) (dO (x:= .tup [.int q.1,.int q.2]) (y:= .int 0) (dH (l:=(q::d).map λq=>PV.tup [.int q.1,.int q.2]) (i:=0) hd rfl rfl (by decide)) rfl rfl)).trans rfl) rfl ?_))
  show some (decide (z.2-q.1≥1000000))=some false;rw[bT (by omega)]
theorem Zt(f:β→Int):∀l:List β,vx (l.map λx=>PV.int (f x))=some ((l.map f).foldr (· +·) 0):=by
 intro x0
 induction x0 with
 |nil=>exact rfl
 |cons x l ih=>
  show(vx _).map _=_;rw[ih];rfl
theorem acL(d:Dm)(hd:d.length≤1000):Au [eD d] σ=some (.int (ou d),σ):=by
 refine d9 (ai:=_) rfl (bS (dE ((bp (aV (DY d (λq=> .int q.1) (λq=> .int q.2) (λq=> .int (q.2-q.1+1)) (λz=>true) (by decide) rfl (ao hd (by decide)) (λz z z=>rfl) (λz z z z=>rfl) λz z z=>rfl))).trans ?_))) rfl;show(vx _).map _=_;rw[yG.mpr (λz z=>rfl),Zt];rfl
theorem Xr:∀(d:Dm) (v:Int) (ρ:aO),ρ "v"=some (.int v)→(∃q∈d,v≤q.2∧gE d v=decide (q.1≤v)∧∃ai,eU false 0 nC xR (d.map λq=> .tup [.int q.1,.int q.2]) ρ σ=some (.ret (.int (max q.1 v)),ai,σ))∨
 (gE d v=false∧∃ai,eU false 0 nC xR (d.map λq=> .tup [.int q.1,.int q.2]) ρ σ=some (.next,ai,σ)):=by
 intro x0
 induction x0 with
 |nil=>exact λv ρ z=> .inr ⟨rfl,ρ,rfl⟩
 |cons q d ih=>
  intro v ρ hv;have BY:((ρ.set "low" (.int q.1)).set "high" (.int q.2)) "v"=some (.int v):=hv;by_cases h:v≤q.2
  ·refine .inl ⟨q,.head _,h,aP h,_,pd (aA:=(ρ.set "low" (.int q.1)).set "high" (.int q.2)) rfl (bS ((cT (aX (aj BY) rfl ?_)).trans (bS (dE ((bp (bC rfl (aV (aj BY)))).trans rfl)))))⟩;show some (decide _)=_;rw[bN h]
  ·have hn:eU false 0 nC xR ((q::d).map λq=> .tup [.int q.1,.int q.2]) ρ σ=
    eU false 0 nC xR (d.map λq=> .tup [.int q.1,.int q.2]) ((ρ.set "low" (.int q.1)).set "high" (.int q.2)) σ:=by
    refine ie (aA:=(ρ.set "low" (.int q.1)).set "high" (.int q.2)) rfl ((aR ((bZ (aX (aj BY) rfl ?_)).trans rfl)).trans rfl);show some (decide _)=_;rw[bT h]
   have hh:gE (q::d) v=gE d v:=aS h;rw[hn,hh];rcases ih v _ BY with⟨p,hp,h1,h2,h3⟩|h3
   ·exact .inl ⟨p,.tail _ ‹_›,h1,h2,h3⟩
   ·exact .inr h3
theorem PM(d:Dm)(v:Int):xv [eD d,.int v] σ=some (.bool (gE d v),σ):=by
 rcases Xr (σ:=σ) d v (bX ["d","v"] [eD d,.int v] λy=>none) rfl with⟨q,_,h1,h2,ai,h3⟩|⟨h2,ai,h3⟩
 ·refine d9 (ai:=_) rfl (bS (dE (dz (aX ((bp rfl).trans (d9 (ai:=ai) rfl (bS ((gk rfl).trans h3)) rfl)) rfl ?_)))) rfl;show some (max q.1 v==v)=_;rw[h2];congr 1;by_cases z:q.1≤v
  ·rw[bN z,show max q.1 v=v by exact wo z];simp
  ·rw[bT z,kc];omega
 ·refine d9 (ai:=_) rfl (bS (dE (dz (aX ((bp rfl).trans (d9 (ai:=_) rfl ((aR ((gk rfl).trans h3)).trans (bS (dE rfl))) rfl)) rfl ?_)))) rfl;rw[h2];rfl
end
inductive Tl where
 |le (c:Int)|eq (c:Int)|ne|gT|tab (c:Int)
noncomputable def kO(c:Int):List (Int×Int):= [(0,c),(1,0),(c,2)]
def eT:Tl→PV
 | .le c=> .tup [.str "linear_le",.tup [.int 1,.int 1],.tup [.int 0,.int 1],.int c]
 | .eq c=> .tup [.str "linear_eq",.tup [.int 1,.int 1],.tup [.int 0,.int 1],.int c]
 | .ne=> .tup [.str "linear_ne",.tup [.int 1,.int (-1)],.tup [.int 0,.int 1],.int 0]
 | .gT=> .tup [.str "all_different",.tup [.int 0,.int 1],.str "values"]
 | .tab c=> .tup [.str "table",.tup [.int 0,.int 1],eD (kO c)]
def eW:Tl→Int→Int→Bool
 | .le c,a,b=>decide (a+b≤c)
 | .eq c,a,b=>decide (a+b=c)
 | .ne,a,b=>decide (a≠b)
 | .gT,a,b=>decide (a≠b)
 | .tab c,a,b=>decide ((a,b)∈kO c)
theorem GJ(n:Nat)(t:Tl):PV.lt n (eT t)=true:=by cases t<;>rfl
variable{V:PV}
section
variable{ρ ai:aO}{σ aq τ:ah}
theorem tu{n:Nat}{x:String}{v:PV}(h:ρ x=some v)(hl:PV.lt n v=true):ρ.cut n x=some v:=by unfold aO.cut;rw[h];simp[hl]
open Classical in
theorem acM{bj:ah}(h:nh σ (bj++ [.c7]))(hl:bj.length=σ.length):Hm σ (.next,ρ,bj++ [.c7])=some (.next,ρ.cut σ.length,bj):=by
 unfold Hm;rw[aP h];dsimp only;rw[←hl,uA]
theorem Ax{bj:ah}(hk:k=bj.length)(τ:ah):gd true k (bj++ .c7::τ)=true:=by subst hk;unfold gd;rw[fh];rfl
theorem NF{c1:CE}{body:CS}{a1 a2 b1 b2:PV}{bL dw jf:aO}{bj dt:ah}(he:eA [c1,c2] ρ σ=some ([.tup [a1,a2],.tup [b1,b2]],σ))
 (t1:bF (.tup [a1,b1]) ρ (σ++ [.c7])=some (aA,σ++ [.c7])) (s1:body aA (σ++ [.c7])=some (.next,bL,bj++ [.c7])) (l1:bj.length=σ.length)
 (t2:bF (.tup [a2,b2]) bL (bj++ [.c7])=some (dw,bj++ [.c7])) (s2:body dw (bj++ [.c7])=some (.next,jf,dt++ [.c7])) (l2:dt.length=σ.length) (ho:nh σ (dt++ [.c7])):
 AG (oC c1 c2) bF body ρ σ=some (.next,jf.cut σ.length,dt):=by
 have f1:eU true σ.length bF body [.tup [a1,b1],.tup [a2,b2]] ρ (σ++ [.c7])=some (.next,jf,dt++ [.c7]):=by
  refine(bb t1).trans ((bb s1).trans ?_);rw[aP (Ax l1.symm [])];refine(bb t2).trans ((bb s2).trans ?_);rw[aP (Ax l2.symm [])];rfl
 refine(bb (bb he:oC c1 c2 ρ σ=some ([.tup [a1,b1],.tup [a2,b2]],σ++ [.c7]))).trans ?_;rw[(by simp:(σ++ [PO.c7]).length-1=σ.length)];exact(bb f1).trans (acM ho l2)
theorem Zu{c1:CE}{e:CE}{a1 a2 b1 b2 v1 v2:PV}{bL:aO}(he:eA [c1,c2] ρ σ=some ([.tup [a1,a2],.tup [b1,b2]],σ))
 (t1:∀τ,bF (.tup [a1,b1]) (ρ.drop tg) τ=some (aA,τ)) (t2:∀τ,bF (.tup [a2,b2]) aA τ=some (bL,τ))
 (e1:∀τ,e aA (σ++τ)=some (v1,σ++τ)) (e2:∀τ,e bL (σ++τ)=some (v2,σ++τ)) (h1:PV.lt σ.length v1=true) (h2:PV.lt σ.length v2=true):
 runC true tg (oC c1 c2) bF (λz σ=>some (true,σ)) (λk=>bK e k) bQ ρ σ=some (.lst [v1,v2],σ):=by
 have app:∀x:PO,σ++ [.c7]++ [x]=σ++ [.c7,x]:=λx=>by simp
 have em:∀(ai:aO) (v:PV) (acc:List PV),(∀τ,e ai (σ++τ)=some (v,σ++τ))→acc.length≤5→bK e (σ++ [PO.c7]).length ai (σ++ [.c7]++ [PO.list acc])=some (ai,σ++ [.c7]++ [.list (acc++ [v])]):=λai v acc h hz=>by
  exact(Av (by rw[app];exact h _) (by rw[←app];exact fh _ _ _) (ao hz (aK rfl))).trans (bV (λx=>some (ai,x)) (by rw[←app];exact iD _ _ _ _))
 have f1:hG true σ.length bF (λz σ=>some (true,σ)) (bK e (σ++ [PO.c7]).length) [.tup [a1,b1],.tup [a2,b2]] (ρ.drop tg) (σ++ [.c7]++ [PO.list []])=some (bL,σ++ [.c7]++ [.list [v1,v2]]):=by
  refine(bb (t1 _)).trans ((bb rfl).trans ?_);refine(bb (em _ v1 [] e1 (aK rfl))).trans ?_;rw[app,aP (Ax rfl _),←app];refine(bb (t2 _)).trans ((bb rfl).trans ?_);refine(bb (em _ v2 [v1] e2 (aK rfl))).trans ?_;rw[app,aP (Ax rfl _),←app];rfl
 refine(bb (bb he:oC c1 c2 ρ σ=some ([.tup [a1,b1],.tup [a2,b2]],σ++ [.c7]))).trans ?_;dsimp only;rw[(by simp:(σ++ [PO.c7]).length-1=σ.length)];refine(bb f1).trans ?_;unfold bQ pT;have Rv:σ++ [PO.c7]++ [PO.list [v1,v2]]=σ++ [.c7,.list [v1,v2]]:=app _;rw[aP (by rw[Rv];exact xd ..)];dsimp only;rw[aS (by simp),fh];show((if eE σ.length [v1,v2]=true then some (PV.lst [v1,v2])else none).bind _)=_;rw[aP (show(PV.lt σ.length v1&&(PV.lt σ.length v2&&true))=true by rw[h1,h2];rfl)];show some (_,List.take _ _)=_;rw[Rv,uA]
def r3(σ:ah)(V:PV)(a b:Int):Prop:=PV.lt σ.length V=true∧∀τ,fZ (σ++τ) V (.int 0)=some (.int a)∧fZ (σ++τ) V (.int 1)=some (.int b)
theorem D0{nm:String}{c2 c:Int}{a b:Int}(hn:nm="linear_le"∨nm="linear_eq"∨nm="linear_ne")(hc: -1000000000<c2∧c2<1000000000)(h:r3 σ V a b):
 yZ [.tup [.str nm,.tup [.int 1,.int c2],.tup [.int 0,.int 1],.int c],V] σ=some (.bool (if nm="linear_le" then decide (0+1*a+c2*b≤c)else(0+1*a+c2*b==c)==(nm=="linear_eq")),σ):=by
 (refine cM h λhl hv=> ?_;clear h);generalize aZ:((((((bX ["told","values"] [.tup [.str nm,.tup [.int 1,.int c2],.tup [.int 0,.int 1],.int c],V] λy=>none).set "name" (.str nm)).set "coefs" (.tup [.int 1,.int c2])).set "scope" (.tup [.int 0,.int 1])).set "c" (.int c)).set "total" (.int 0))=a9;have s1:∀(aA:aO) (i:Nat) (co t v:Int),aA "values"=some V→aA "total"=some (.int t)→aA "coef"=some (.int co)→aA "x"=some (.int i)→fZ (σ++ [.c7]) V (.int i)=some (.int v)→(-1000000000<co∧co<1000000000)→
  ak OV aC aA (σ++ [.c7])=some (.next,aA.set "total" (.int (t+co*v)),σ++ [.c7]):=λaA i co t v e1 e2 e3 e4 e5 e6=>
  (aR (cf ((da (aj e2) ((da (aj e3) (dO (aj e1) (aj e4) e5)).trans (aP e6))).trans rfl))).trans rfl
 have Bi:a9 "values"=some V:=by rw[←aZ];rfl
 have IQ:a9 "total"=some (.int 0):=by rw[←aZ];rfl
 have z:=NF (σ:=σ) (ρ:=a9) (c1:=af "coefs") (c2:=af "scope") (bF:=gP [(a8 "coef"),(a8 "x")]) (a1:= .int 1) (a2:= .int c2) (b1:= .int 0) (b2:= .int 1) (by rw[←aZ];rfl) (aA:=(a9.set "coef" (.int 1)).set "x" (.int 0)) rfl
  (s1 _ 0 1 0 a Bi IQ rfl rfl (hv _).1 (by decide)) rfl (dw:=((((a9.set "coef" (.int 1)).set "x" (.int 0)).set "total" (.int (0+1*a))).set "coef" (.int c2)).set "x" (.int 1)) rfl (s1 _ 1 c2 _ b Bi rfl rfl rfl (hv _).2 hc) rfl (xd _ _)
 generalize kP:((((((a9.set "coef" (.int 1)).set "x" (.int 0)).set "total" (.int (0+1*a))).set "coef" (.int c2)).set "x" (.int 1)).set "total" (.int (0+1*a+c2*b))).cut σ.length=kr at z;have n5:kr "name"=some (.str nm):=by rw[←kP,←aZ];rfl
 have t5:kr "total"=some (.int (0+1*a+c2*b)):=by rw[←kP];rfl
 have c5:kr "c"=some (.int c):=by rw[←kP,←aZ];rfl
 have pre:Ks (bX ["told","values"] [.tup [.str nm,.tup [.int 1,.int c2],.tup [.int 0,.int 1],.int c],V] λy=>none) σ=_:=(aR (jA rfl rfl)).trans ((aR (cf rfl)).trans ((aR (aZ▸z)).trans rfl));refine d9 (ai:=kr) rfl (pre.trans ?_) rfl;clear aZ pre;rcases hn with rfl|rfl|rfl
 ·exact bS ((cT (aX (aj n5) rfl rfl)).trans (bS (dE (dz (aX (aj t5) (aj c5) rfl)))))
 ·exact(aR ((bZ (aX (aj n5) rfl rfl)).trans rfl)).trans (bS (dE (dz (aX (dz (aX (aj t5) (aj c5) rfl)) (dz (aX (aj n5) rfl rfl)) rfl))))
 ·exact(aR ((bZ (aX (aj n5) rfl rfl)).trans rfl)).trans (bS (dE (dz (aX (dz (aX (aj t5) (aj c5) rfl)) (dz (aX (aj n5) rfl rfl)) rfl))))
theorem Li{a b:Int}(h:r3 σ V a b):zm [.tup [.int 0,.int 1],V] σ=some (.tup [.int a,.int b],σ):=by
 refine d9 (ai:=_) rfl (bS (dE ((bp (aV (n6 [(0,a),(1,b)] (λq=>PV.int q.1) (λq=>PV.int q.2) rfl (aK rfl) (λy hy l=> ?_) λz z=>rfl))).trans rfl))) rfl;simp only[cG,ff,fg]at hy;rcases hy with rfl|rfl
 ·exact dO (x:=V) (y:= .int 0) rfl rfl (h.2 _).1
 ·exact dO (x:=V) (y:= .int 1) rfl rfl (h.2 _).2
end
section
variable{ρ ai:aO}{σ aq τ:ah}
theorem oi{x y:String}{b:Bool}(h:decide (x=y)=b):bA σ (.str x) (.str y)=some b:=vg (n:=0) (m:=0) rfl rfl (eH _) (by rw[←h,h9,PV.str.injEq])
theorem ne_str{x y:String}{b:Bool}(h:decide (x≠y)=b):cA σ (.str x) (.str y)=some b:=tq (n:=0) (m:=0) rfl rfl (eH _) (by rw[←h,h9,ne_eq,ne_eq,PV.str.injEq])
theorem MP(l:List String):mE 0 (l.map PV.str)=true:=kg.mpr λp hp=>by obtain⟨x,_,rfl⟩:=dR.mp hp;rfl
theorem qr{x:String}{b:Bool}(l:List String)(h:decide (x∈l)=b):di σ (.str x) (.tup (l.map .str))=some b:=Aw (n:=0) (m:=0) rfl (MP l) (eH _) (by
 rw[←h,h9,dR];exact⟨λh=>⟨x,h,rfl⟩,λ⟨y,h,e⟩=>by cases e;exact h⟩)
theorem Mb{x:String}{b:Bool}(l:List String)(h:decide (x∉l)=b):ej σ (.str x) (.tup (l.map .str))=some b:=wQ (n:=0) (m:=0) rfl (MP l) (eH _) (by
 rw[←h,h9,dR];exact⟨λh ⟨y,h2,e⟩=>by cases e;exact h h2,λh h2=>h ⟨x,h2,rfl⟩⟩)
def Rt(a:CS)(ρ:aO)(σ:ah)(v:PV)(τ:ah):Prop:=∃ai,a ρ σ=some (.ret v,ai,τ)
theorem cg{a b:CS}{v:PV}(h:a ρ σ=some (.next,ai,aq))(h2:Rt b ai aq v τ):Rt (ak a b) ρ σ v τ:=h2.elim λz e=>⟨_,(aR h).trans e⟩
theorem bW{c:CE}{b:CS}{v:PV}(h:c ρ σ=some (v,aq)):Rt (ak (bI c) b) ρ σ v aq:=⟨_,bS (dE h)⟩
theorem bq{t:CB}{a b:CS}{v:PV}(h:t ρ σ=some (false,aq))(h2:Rt b ρ aq v τ):Rt (ak (bt t a aC) b) ρ σ v τ:=cg ((bZ h).trans rfl) h2
theorem dg{t:CB}{a b c:CS}{v:PV}(h:t ρ σ=some (true,aq))(h2:Rt a ρ aq v τ):Rt (ak (bt t a b) c) ρ σ v τ:=h2.elim λz e=>⟨_,bS ((cT h).trans e)⟩
theorem fE{body:CS}{v:PV}(hl:args.length=params.length)(h:Rt body (bX params args λz=>none) σ v σ)(dD:PV.lt σ.length v=true):cI params body args σ=some (v,σ):=h.elim λz e=>d9 hl e dD
theorem s9{body:CS}{v:PV}(hl:args.length=params.length)(h:Rt body (bX params args λz=>none) σ v (σ++τ))(dD:PV.lt σ.length v=true):cI params body args σ=some (v,σ):=h.elim λz e=>uS hl e dD
theorem cK{x y:String}{b:Bool}{v:String}(hv:ρ v=some (.str x))(h:decide (x=y)=b):aJ bA (af v) (a5 y) ρ σ=some (b,σ):=aX (aj hv) rfl (oi h)
theorem isin{x:String}{b:Bool}{v:String}{c:CE}(l:List String)(hv:ρ v=some (.str x))(hc:c ρ σ=some (.tup (l.map .str),σ))(h:decide (x∈l)=b):aJ di (af v) c ρ σ=some (b,σ):=aX (aj hv) hc (qr l h)
noncomputable abbrev Bv:= ["linear_le","linear_eq","linear_ne"]
noncomputable abbrev Rw:= ["times","div","mod","abs","max","min"]
noncomputable abbrev Rx:= ["element","element_of","table","inverse","circuit"]
noncomputable abbrev afj:= ["all_different","count","nvalue","cardinality"]
theorem mX{a b:Int}(ha: -1000000000≤a∧a≤1000000000)(hb: -1000000000≤b∧b≤1000000000):itemsOf (.d7 a b)=some (fC a b):=aP ⟨bN ha,bN hb⟩
theorem Zv{c:Int}{a b:Int}(h:r3 σ V a b):C1 [eT (.tab c),V] σ=some (.bool (eW (.tab c) a b),σ):=by
 refine d9 (ai:=_) rfl ((aR (cf (v:= .str "table") rfl)).trans ((aR ((bZ (cK rfl (by decide))).trans rfl)).trans (bS ((cT (cK rfl (by decide))).trans (bS (dE (dz (aX (y:=eD (kO c)) ((bp rfl).trans (Li h)) rfl ?_)))))))) rfl;refine Aw (n:=1) (m:=1) rfl rfl (by decide) ?_;show decide ((a,b)∈kO c)=true↔_;simp[kO]
theorem fH(a b:Int):decide ((1:Int)=0∨a≠b)=true↔PV.int b∉ [PV.int a]:=by
 by_cases q:a=b
 ·simp[q]
 ·simp[q,sW q]
theorem abc{a b:Int}(h:r3 σ V a b):C6 [eT .gT,V] σ=some (.bool (eW .gT a b),σ):=by
 refine fE rfl ?_ rfl;refine cg (jA (τ:=σ) (ai:=(((bX ["told","values"] [eT .gT,V] λz=>none).set "name" (.str "all_different")).set "some" (.tup [.int a,.int b]))) (v:= .tup [.str "all_different",.tup [.int a,.int b]]) (d3 (bC rfl (aV ((bp rfl).trans (Li h))))) rfl) ?_;refine bq (cK rfl (by decide)) ?_;refine bq (cK rfl (by decide)) ?_;generalize aZ:(((bX ["told","values"] [eT .gT,V] λz=>none).set "name" (.str "all_different")).set "some" (.tup [.int a,.int b]))=a9;have h2:a9 "some"=some (.tup [.int a,.int b]):=aZ▸rfl;have hl:∀{ρ:aO},ρ "some"=some (.tup [.int a,.int b])→aN cq [af "some"] ρ σ=some (.int 2,σ):=λh=>(bp (aV (aj h))).trans (ko (l:= [.int a,.int b]) (aK rfl));have hc:runC false [".0","k"] (bE (aN gz [aN cq [af "some"]])) (a8 "k") (aJ ej (aG (af "some") (af "k")) (jw (af "some") cU (af "k") cU)) (λk=>bK (af "k") k) bQ a9 σ=some (.lst (([0,1].filter λi=>decide (i=0∨a≠b)).map PV.int),σ):=by
  refine jL [(0:Int),1] PV.int PV.int (λi=>decide (i=0∨a≠b)) (dq (v:= .d7 0 2) ((bp (aV (hl h2))).trans rfl) (mX (by decide) (by decide))) (aK rfl) (λy hy l=> ?_) (λz z z z=>rfl) λz z z=>rfl;have h3:((a9.drop [".0","k"]).set "k" (.int y)) "some"=some (.tup [.int a,.int b]):=h2;simp only[cG,ff,fg]at hy;rcases hy with rfl|rfl
  ·exact aX (x:= .int a) (y:= .tup []) (dO (aj h3) rfl rfl) ((bb (aj h3)).trans rfl) rfl
  ·exact aX (x:= .int b) (y:= .tup [.int a]) (dO (aj h3) rfl rfl) ((bb (aj h3)).trans rfl) (wQ (n:=0) (m:=0) rfl rfl (by decide) (fH a b))
 refine cg (cf (aq:=σ) (v:= .int (if a=b then 1 else 2)) ((bp (aV hc)).trans ?_)) ?_
 ·by_cases h:a=b
  ·simp[h];rfl
  ·simp[h];rfl
 generalize kP:a9.set "unlike" (.int (if a=b then 1 else 2))=aA;have g3:aA "unlike"=some (.int (if a=b then 1 else 2)):=by rw[←kP];rfl
 refine bW (dz (aX (aj g3) ((iJ (cK (kP▸(aZ▸rfl:a9 "name"=some (.str "all_different")):aA "name"=some (.str "all_different")) (by decide))).trans (hl (kP▸h2))) ?_));by_cases h:a=b
 ·rw[aP h];show some (_==_)=some (decide (a≠b));simp[h]
 ·rw[aS h];show some (_==_)=some (decide (a≠b));simp[h]
theorem NG(t:Tl){a b:Int}(h:r3 σ V a b):sP [eT t,V] σ=some (.bool (eW t a b),σ):=by
 cases t with
 |le c=>
  refine d9 (ai:=_) rfl ((aR (cf (v:= .str "linear_le") rfl)).trans (bS ((cT (aX rfl rfl rfl)).trans (bS (dE ((bp rfl).trans ((D0 (.inl rfl) (by decide) h).trans ?_))))))) rfl;rw[aP rfl];show _=some (PV.bool (decide (a+b≤c)),σ);simp
 |eq c=>
  refine d9 (ai:=_) rfl ((aR (cf (v:= .str "linear_eq") rfl)).trans (bS ((cT (aX rfl rfl rfl)).trans (bS (dE ((bp rfl).trans ((D0 (.inr (.inl rfl)) (by decide) h).trans ?_))))))) rfl;rw[aS (by decide)];congr 2;show _=PV.bool (decide (a+b=c));simp;exact Uw _ _
 |ne=>
  refine d9 (ai:=_) rfl ((aR (cf (v:= .str "linear_ne") rfl)).trans (bS ((cT (aX rfl rfl rfl)).trans (bS (dE ((bp rfl).trans ((D0 (.inr (.inr rfl)) (by decide) h).trans ?_))))))) rfl;rw[aS (by decide)];congr 3;show _=decide (a≠b);by_cases q:a=b
  ·simp[q];lia
  ·simp[q];lia
 |gT=>
  exact d9 (ai:=_) rfl ((aR (cf (v:= .str "all_different") rfl)).trans ((aR ((bZ (isin Bv rfl rfl (by decide))).trans rfl)).trans ((aR ((bZ (isin Rw rfl rfl (by decide))).trans rfl)).trans ((aR ((bZ (isin Rx rfl rfl (by decide))).trans rfl)).trans (bS ((cT (isin afj rfl rfl (by decide))).trans (bS (dE ((bp rfl).trans (abc h)))))))))) rfl
 |tab c=>
  exact d9 (ai:=_) rfl ((aR (cf (v:= .str "table") rfl)).trans ((aR ((bZ (isin Bv rfl rfl (by decide))).trans rfl)).trans ((aR ((bZ (isin Rw rfl rfl (by decide))).trans rfl)).trans (bS ((cT (isin Rx rfl rfl (by decide))).trans (bS (dE ((bp rfl).trans (Zv h))))))))) rfl
theorem Zw(t:Tl):C7 [eT t] σ=some (.lst [.int 0,.int 1],σ):=by
 cases t with
 |gT=>
  refine fE rfl ?_ rfl;refine cg (cf (v:= .str "all_different") rfl) ?_;refine bq ((df (cK rfl (by decide))).trans ((df (cK rfl (by decide))).trans rfl)) ?_;refine bq (isin Bv rfl rfl (by decide)) ?_;refine bq (isin ["times","div","mod","abs","xor"] rfl rfl (by decide)) ?_;refine bq (isin ["max","min","and","or","nvalue"] rfl rfl (by decide)) ?_;refine bq (isin ["inverse","lex_le","lex_lt","clause"] rfl rfl (by decide)) ?_;refine bq (cK rfl (by decide)) ?_;refine bq (cK rfl (by decide)) ?_;refine bq (cK rfl (by decide)) ?_;exact bW ((bp (aV ((gC (cK (x:="all_different") (y:="precede") rfl (by decide))).trans rfl))).trans rfl)
 |tab c=>
  refine fE rfl ?_ rfl;refine cg (cf (v:= .str "table") rfl) ?_;refine bq ((df (cK rfl (by decide))).trans ((df (cK rfl (by decide))).trans rfl)) ?_;refine bq (isin Bv rfl rfl (by decide)) ?_;refine bq (isin ["times","div","mod","abs","xor"] rfl rfl (by decide)) ?_;refine bq (isin ["max","min","and","or","nvalue"] rfl rfl (by decide)) ?_;refine bq (isin ["inverse","lex_le","lex_lt","clause"] rfl rfl (by decide)) ?_;refine bq (cK rfl (by decide)) ?_;refine bq (cK rfl (by decide)) ?_;refine bq (cK rfl (by decide)) ?_;exact bW ((bp (aV ((gC (cK (x:="table") (y:="precede") rfl (by decide))).trans rfl))).trans rfl)
 |le c=>exact d9 (ai:=_) rfl rfl rfl
 |eq c=>exact d9 (ai:=_) rfl rfl rfl
 |ne=>exact d9 (ai:=_) rfl rfl rfl
theorem acN(t:Tl):DK [eT t] σ=some (.tup [.int 0,.int 1],σ):=by
 refine s9 (τ:= [.list [.int 0,.int 1]]) rfl ?_ rfl;refine cg (cf (v:= .loc σ.length) (aq:=σ++ [.list []]) rfl) ?_;generalize aZ:(bX ["told"] [eT t] λz=>none).set "found" (.loc σ.length)=a9;have h0:a9 "found"=some (.loc σ.length):=by rw[←aZ];rfl
 have h1:a9 "told"=some (eT t):=by rw[←aZ];rfl
 have g:∀l,(σ++ [PO.list l])[σ.length]? =some (.list l):=λl=>fh _ _ _;have nt:∀(ρ:aO) (l:List PV) (p:PV),ρ "found"=some (.loc σ.length)→ej (σ++ [PO.list l]) p (.loc σ.length)=some true→l.length≤1000000→
  ak Qr aC (ρ.set "x" p) (σ++ [.list l])=some (.next,ρ.set "x" p,σ++ [.list (l++ [p])]):=λρ l p h2 h3 h4=>by
  have yk:(ρ.set "x" p) "found"=some (.loc σ.length):=h2;have SW:(ρ.set "x" p) "x"=some p:=rfl;refine(aR ((cT (aX (aj SW) (aj yk) h3)).trans ?_)).trans rfl;exact(aR (uU (aj yk) (aj SW) (g l) h4)).trans (by rw[iD];rfl)
 have d:∀l,dp (σ++ [PO.list l]) (.loc σ.length)= .lst l:=λl=>by unfold dp;dsimp only;rw[g]
 refine cg (ai:=(a9.set "x" (.int 0)).set "x" (.int 1)) (aq:=σ++ [.list [.int 0,.int 1]]) ((gk (dq ((bp (aV (aj h1))).trans (Zw t)) rfl)).trans ((ie (aA:=a9.set "x" (.int 0)) rfl (nt a9 [] (.int 0) h0 (DM (n:=0) (m:=0) (d []) rfl rfl (eH _) (by simp)) (eH _))).trans
  ((ie (aA:=(a9.set "x" (.int 0)).set "x" (.int 1)) rfl (nt (a9.set "x" (.int 0)) [.int 0] (.int 1) h0 (DM (n:=0) (m:=0) (d _) rfl rfl (eH _) (by simp)) (aK rfl))).trans Ak))) ?_
 refine bW ((bp (args:= [.loc σ.length]) (aV (aj h0))).trans ?_);unfold jv pW;dsimp only;rw[d];rfl
end
noncomputable def lets(s:String)(k v:Int):Bool:=if s="<=" then decide (v≤k)else if s=">=" then decide (v≥k)else if s="=" then decide (v=k)else decide (v≠k)
section
variable{ρ ai:aO}{σ aq τ:ah}
theorem gL(a b:Int):bA σ (.int a) (.int b)=some (decide (a=b)):=by
 show some (a==b)=_;rw[Uw]
theorem MQ(a b:Bool):bA σ (.bool a) (.bool b)=some (a==b):=rfl
theorem ED{l:K3}(hs:jk l.2.1)(v:Int):rn [l.pv,.int v] σ=some (.bool (lets l.2.1 l.2.2 v),σ):=by
 obtain⟨x,s,k⟩:=l;rcases hs with rfl|rfl|rfl|rfl
 ·exact d9 (ai:=_) rfl rfl rfl
 ·exact d9 (ai:=_) rfl rfl rfl
 ·refine fE rfl ?_ rfl;refine cg (bb rfl) ?_;refine dg (isin (x:="=") ["=","!="] rfl rfl (by decide)) ?_;refine bW (dz (aX (dz (aX (x:= .int v) (y:= .int k) rfl rfl (gL v k))) (dz (cK (x:="=") rfl (rfl:decide ("="="=")=true))) ?_));rw[MQ];simp[lets]
 ·refine fE rfl ?_ rfl;refine cg (bb rfl) ?_;refine dg (isin (x:="!=") ["=","!="] rfl rfl (by decide)) ?_;refine bW (dz (aX (dz (aX (x:= .int v) (y:= .int k) rfl rfl (gL v k))) (dz (cK (x:="!=") rfl (rfl:decide ("!="="=")=false))) ?_));rw[MQ];simp[lets]
theorem qW{x y:String}{b:Bool}{v:String}{l:List PV}(hv:ρ v=some (.tup l))(hi:l[i]? =some (.str x))(hz:i<1000000)(h:decide (x=y)=b):aJ bA (aG (af v) (aw (i:Nat))) (a5 y) ρ σ=some (b,σ):=aX (dH (aj hv) rfl hi hz) rfl (oi h)
theorem NH(t:Tl){a b:Int}(l:List PV):uI [eT t,.lst (.int a:: .int b::l)] σ=some (.bool (eW t a b),σ):=by
 refine fE rfl ?_ rfl;generalize aZ:(bX ["told","point"] [eT t,.lst (.int a:: .int b::l)] λz=>none)=a9;have h1:a9 "point"=some (.lst (.int a:: .int b::l)):=by rw[←aZ];rfl
 have h2:a9 "told"=some (eT t):=aZ▸rfl;have p0:aG (af "point") (aw 0) a9 σ=some (.int a,σ):=gA (i:=0) (aj h1) rfl rfl (by decide);have p1:aG (af "point") (aw 1) a9 σ=some (.int b,σ):=gA (i:=1) (aj h1) rfl rfl (by decide);have IS:∀(nm:String) (c2 c:Int) (r:Bool),eT t= .tup [.str nm,.tup [.int 1,.int c2],.tup [.int 0,.int 1],.int c]→nm≠"all_different"→nm≠"table"→(-1000000000<c2∧c2<1000000000)→(if nm="linear_le" then decide (a+c2*b-c≤0)else decide (a+c2*b-c=0)==decide (nm="linear_eq"))=r→Rt Lg a9 σ (.bool r) σ:=λnm c2 c r e n1 n2 hc hr=>by
  rw[e]at h2;refine bq (qW (i:=0) h2 rfl (by decide) (bT n1)) ?_;refine bq (qW (i:=0) h2 rfl (by decide) (bT n2)) ?_;refine cg (cf (v:= .int (a+c2*b-c)) ((da ((da p0 ((da (dO (x:= .tup [.int 1,.int c2]) (y:= .int 1) (dO (aj h2) rfl rfl) rfl rfl) p1).trans (aP hc))).trans rfl) (dO (aj h2) rfl rfl)).trans rfl)) ?_;have h4:(a9.set "total" (.int (a+c2*b-c))) "told"=some (.tup [.str nm,.tup [.int 1,.int c2],.tup [.int 0,.int 1],.int c]):=h2;have h5:(a9.set "total" (.int (a+c2*b-c))) "total"=some (.int (a+c2*b-c)):=rfl;refine bW ?_;by_cases q:nm="linear_le"
  ·replace hr:=(aP q).symm.trans hr;exact(iJ (qW (i:=0) h4 rfl (by decide) (bN q))).trans (dz (aX (aj h5) rfl (bV some hr)))
  ·replace hr:=(aS q).symm.trans hr;refine(gC (qW (i:=0) h4 rfl (by decide) (bT q))).trans (dz (aX (dz (aX (aj h5) rfl (gL _ _))) (dz (qW (i:=0) h4 rfl (by decide) rfl)) (bV some hr)))
 cases t with
 |le c=>exact IS "linear_le" 1 c _ rfl (by decide) (by decide) (by decide) (by show decide (a+1*b-c≤0)=decide (a+b≤c);congr 1;apply propext;lia)
 |eq c=>exact IS "linear_eq" 1 c _ rfl (by decide) (by decide) (by decide) (by
  show(decide (a+1*b-c=0)==true)=decide (a+b=c);by_cases q:a+b=c
  ·rw[bN q,bN (by lia)];rfl
  ·rw[bT q,bT (by lia)];rfl)
 |ne=>exact IS "linear_ne" (-1) 0 _ rfl (by decide) (by decide) (by decide) (by
  show(decide (a+ -1*b-0=0)==false)=decide (a≠b);by_cases q:a=b
  ·rw[bT (by omega:¬a≠b),bN (by lia)];rfl
  ·rw[bN q,bT (by lia)];rfl)
 |gT=>
  refine dg (qW (i:=0) h2 rfl (by decide) (by decide)) ?_;exact bW (dz (aX p0 p1 (by unfold cA;rw[gL];show some (!decide (a=b))=some (decide (a≠b));simp)))
 |tab c=>
  refine bq (qW (i:=0) h2 rfl (by decide) (by decide)) ?_;refine dg (qW (i:=0) h2 rfl (by decide) (by decide)) ?_;exact bW (dz (aX (y:=eD (kO c)) (d3 (bC p0 (aV p1))) (dO (aj h2) rfl rfl) (Aw (n:=1) (m:=1) rfl rfl (by decide) (by show decide ((a,b)∈ [(0,c),(1,0),(c,2)])=true↔_;simp[kO]))))
theorem Xu(a:Int)(h:a=0∨a=1):Df [.int a,.int 1] σ=some (.int 1,σ):=by
 rcases h with rfl|rfl
 ·exact d9 (ai:=_) rfl rfl rfl
 ·exact d9 (ai:=_) rfl rfl rfl
end
noncomputable def DD:List Dm:= [[],[(-1,-1)],[(-1,0)],[(0,0)],[(0,1)],[(0,2)],[(0,0),(2,2)],[(1,1)],[(1,2)],[(2,2)]]
noncomputable def nJ:List Int:= [-3,-2,-1,0,1,2,3,4]
theorem xl{k:Int}(h: -3≤k∧k≤4):k∈nJ:=by
 simp only[nJ,cG,ff,fg];lia
theorem adS:∀d∈DD,∀k∈nJ,upTo d k∈DD∧vals (upTo d k)=(vals d).filter (λv=>decide (v≤k)):=by decide+kernel
theorem adT:∀d∈DD,∀k∈nJ,pj d k∈DD∧vals (pj d k)=(vals d).filter (λv=>decide (v≥k)):=by decide+kernel
theorem adU:∀d∈DD,∀k∈nJ,nj d k∈DD∧vals (nj d k)=(vals d).filter (λv=>decide (v=k)):=by decide+kernel
theorem adV:∀d∈DD,∀k∈nJ,upTo d (k-1)++pj d (k+1)∈DD∧vals (upTo d (k-1)++pj d (k+1))=(vals d).filter (λv=>decide (v≠k)):=by decide+kernel
theorem xe{s:String}{k:Int}(hs:jk s)(hk: -3≤k∧k≤4)(hd:d∈DD):eV s k d∈DD∧vals (eV s k d)=(vals d).filter (lets s k):=by
 rcases hs with rfl|rfl|rfl|rfl
 ·exact adS d hd k (xl hk)
 ·exact adT d hd k (xl hk)
 ·exact adU d hd k (xl hk)
 ·exact adV d hd k (xl hk)
theorem acO:∀d∈DD,∀e∈DD,vals d=vals e→d=e:=by decide+kernel
theorem xm:∀d∈DD,vals d= []→d= []:=by decide+kernel
theorem EE:∀d∈DD,d.length≤2:=by decide+kernel
theorem pf:∀d∈DD,(vals d).length≤3∧ou d=(vals d).length∧∀v∈vals d,-1≤v∧v≤2:=by decide+kernel
theorem EF:∀d∈DD,∀v∈nJ,gE d v=decide (v∈vals d):=by decide+kernel
theorem PN(h:d∈DD):SV d:=by
 refine⟨ao (EE d h) (by decide),?_⟩;have:∀d∈DD,∀q∈d,(-100≤q.1∧q.1≤100)∧ -100≤q.2∧q.2≤100:=by decide+kernel
 exact this d h
theorem NI{l:K3}(hs:jk l.2.1):jk (jE l).2.1∧(jE l).1=l.1∧(∀v,lets (jE l).2.1 (jE l).2.2 v= !lets l.2.1 l.2.2 v)∧(jE l).2.2≤l.2.2+1∧l.2.2-1≤(jE l).2.2:=by
 obtain⟨x,s,k⟩:=l;rcases hs with rfl|rfl|rfl|rfl
 ·refine⟨.inr (.inl rfl),rfl,λv=> ?_,Dv _,by show k-1≤k+1;omega⟩;show decide (v≥k+1)= !decide (v≤k);rw[←decide_not];congr 1;apply propext;lia
 ·refine⟨.inl rfl,rfl,λv=> ?_,by show k-1≤k+1;lia,Dv _⟩;show decide (v≤k-1)= !decide (v≥k);rw[←decide_not];congr 1;apply propext;lia
 ·refine⟨.inr (.inr (.inr rfl)),rfl,λv=> ?_,by show k≤k+1;omega,by show k-1≤k;omega⟩;show decide (v≠k)= !decide (v=k);rw[←decide_not]
 ·refine⟨.inr (.inr (.inl rfl)),rfl,λv=> ?_,by show k≤k+1;lia,by show k-1≤k;lia⟩;show decide (v=k)= !decide (v≠k);by_cases h:v=k
  ·simp[h]
  ·simp[h]
def dQ(n:Nat)(l:K3):Prop:=(0≤l.1∧l.1<n)∧jk l.2.1∧ -2≤l.2.2∧l.2.2≤3
theorem Zx{l:K3}{n:Nat}(h:dQ n l)(hd:d∈DD):eV (jE l).2.1 (jE l).2.2 d∈DD∧vals (eV (jE l).2.1 (jE l).2.2 d)=(vals d).filter (λv=> !lets l.2.1 l.2.2 v):=by
 refine vr (NI h.2.1) λh1 h2 h3 h4 h5=> ?_;have h6:=h.2.2;refine cM (xe h1 (k:=(jE l).2.2) ⟨by lia,by lia⟩ hd) λg1 g2=> ?_;exact⟨g1,g2.trans (by congr 1;funext v;exact h3 v)⟩
theorem Mc{k:Int}{v:PV}:∀{l:List (Int×PV)},(put k v l).lookup k=some v:=by
 intro l;unfold put;split
 ·rename_i h
  induction l with
  |nil=>simp at h
  |cons q l ih=>
   obtain⟨a,p⟩:=q;by_cases e:a=k
   ·clear ih h;subst e;simp
   ·have hb:(k==a)=false:=by simp;exact λz=>e z.symm
    simp only[jq,aS e,sx,hb];exact ih (by simpa [e]using h)
 ·rename_i h
  induction l with
  |nil=>simp
  |cons q l ih=>
   obtain⟨a,p⟩:=q;have e:a≠k:=λe=>h (by simp[e]);have hb:(k==a)=false:=by simp;exact λz=>e z.symm
   simp only[List.cons_append,sx,hb];exact ih (by simpa [e]using h)
theorem Wt{k j:Int}(hj:j≠k){v:PV}:∀{l:List (Int×PV)},(put k v l).lookup j=l.lookup j:=by
 intro l;unfold put;have hb:(j==k)=false:=by simp[hj]
 split
 ·rename_i h;clear h
  induction l with
  |nil=>rfl
  |cons q l ih=>
   obtain⟨a,p⟩:=q;by_cases e:a=k
   ·clear hj;subst e;simp only[jq,aP,sx,hb];exact ih
   ·simp only[jq,aS e,sx];split
    ·rfl
    ·exact ih
 ·rename_i h;clear h
  induction l with
  |nil=>simp[sx,hb]
  |cons q l ih=>
   obtain⟨a,p⟩:=q;simp only[List.cons_append,sx];split
   ·rfl
   ·exact ih
theorem MR{k:Int}{v:PV}{l:List (Int×PV)}:(put k v l).length≤l.length+1:=by
 unfold put;split<;>simp
theorem MS{k:Int}{v:PV}{l:List (Int×PV)}{q:Int×PV}(h:q∈put k v l):q.2=v∨q∈l:=by
 unfold put at h;split at h
 ·(refine aT (dR.mp h) λp hp aM=> ?_;clear h;subst aM);split
  ·exact .inl rfl
  ·exact .inr hp
 ·rcases uy.mp h with h|h
  ·exact .inr h
  ·rw[fz]at h;subst h;exact .inl rfl
structure Tn(ds cu:List Dm)(m:Nat)(tl:List (Int×PV)):Prop where
 at':∀(i:Nat) (d:Dm),cu[i]? =some d→∃e,ds[i]? =some e∧((tl.lookup (i:Int)).getD (eD e))=eD d
 dd:∀d∈cu,d∈DD
 len:tl.length≤m
 plain:∀q∈tl,∃d,q.2=eD d
noncomputable def dC(ds:List Dm)(t:Nat):PO:= .inst 403 [("domains",.lst (ds.map eD)),("turned",.loc t)]
theorem Ot{ds:List Dm}(h:∀d∈ds,d∈DD):Tn ds ds 0 []:=⟨λi d e=>⟨d,e,rfl⟩,h,cH _,λq h=>by cases h⟩
theorem EG{ds cu:List Dm}{tl:List (Int×PV)}(T:Tn ds cu m tl)(hd:d∈DD):Tn ds (cu.set i d) (m+1) (put (i:Int) (eD d) tl):=by
 refine⟨λj e hj=> ?_,λe he=> ?_,ao MR (yR T.len),λq hq=> ?_⟩
 ·by_cases q:j=i
  ·subst q;have hl:j<(cu.set j d).length:=(fe.mp hj).1;rw[kZ]at hl;rw[j9 hl]at hj;(refine cj hj λaL=> ?_;clear hj;subst aL);refine aT (T.at' j cu[j] (cF hl)) λe h1 y=> ?_;exact⟨e,h1,by rw[Mc];rfl⟩
  ·rw[oN (λz=>q z.symm)]at hj;refine aT (T.at' j e hj) λe' h1 h2=> ?_;exact⟨e',h1,by rw[Wt (by lia)];exact h2⟩
 ·rcases Jn he with h|h
  ·exact T.dd e h
  ·exact h▸hd
 ·rcases MS hq with h|h
  ·exact⟨d,h⟩
  ·exact T.plain q h
theorem GK{ds cu:List Dm}{tl:List (Int×PV)}(T:Tn ds cu m tl)(n:Nat):PO.lt n (.aU tl)=true:=by
 exact n7 λq hq=>by obtain⟨d,e⟩:=T.plain q hq;rw[e];exact l4 n d
section
variable{ρ ai:aO}{σ aq τ:ah}{ds cu:List Dm}{m b t:Nat}{tl:List (Int×PV)}
theorem acP(hb:σ[b]? =some (dC ds t))(ht:σ[t]? =some (.aU tl))(T:Tn ds cu m tl)(hi:cu[i]? =some d)(hz:i<1000000):wH [.loc b,.int i] σ=some (eD d,σ):=by
 refine aT (T.at' i d hi) λe h1 h2=> ?_;refine fE rfl ?_ (l4 _ _);have ty:nr "dict" σ (.loc t)=true:=by unfold nr;dsimp only;rw[ht];rfl
 refine bW ((vF (jR rfl hb rfl) ty (bC (v:= .int i) rfl (aV (gA (v:=eD e) (i:=i) (jR rfl hb rfl) rfl (by rw[eM,h1];rfl) hz)))).trans ?_);refine(Nh ht).trans ?_;rw[h2]
theorem tc{o e:CE}(hb:σ[b]? =some (dC ds t))(ht:σ[t]? =some (.aU tl))(T:Tn ds cu m tl)(hi:cu[i]? =some d)(hz:i<1000000)(ho:o ρ σ=some (.loc b,σ))(he:e ρ σ=some (.int i,σ)):fi o 403 "domain" wH [e] ρ σ=some (eD d,σ):=
 (jx ho hb rfl (aV he)).trans (acP hb ht T hi hz)
theorem adW(h:d∈DD):d.length≤500:=ao (EE d h) (by decide)
theorem kM(T:Tn ds cu m tl)(hi:cu[i]? =some d):d∈DD:=T.dd d (lM hi)
theorem Em(hb:σ[b]? =some (dC ds t))(ht:σ[t]? =some (.aU tl))(T:Tn ds cu m tl){s:String}{k:Int}(hi:cu[i]? =some d)(hz:i<1000000)(hs:jk s)(h1:ρ "self"=some (.loc b))(h2:ρ "literal"=some (K3.pv (i,s,k))):
 aN zV [(af "literal"),Hw] ρ σ=some (eD (eV s k d),σ):=
 (bp (bC (aj h2) (aV (tc hb ht T hi hz (aj h1) (dH (i:=0) (v:= .int i) (aj h2) rfl rfl (by decide)))))).trans (Zr (l:=(i,s,k)) hs d (adW (kM T hi)))
theorem yr(d:Dm):Pl 2 (eD d)=true:=by
 exact kg.mpr λp hp=>by obtain⟨x,_,rfl⟩:=dR.mp hp;rfl
theorem qj{α β:Type}{f:α→β}(hf:∀a b,f a=f b→a=b):∀{l r:List α},l.map f=r.map f→l=r
 | [],[],_=>rfl
 | [],_::_,h=>by cases h
 |_::_,[],h=>by cases h
 |a::l,b::r,h=>by
  rw[jq,jq,wx]at h;rw[hf a b h.1,qj hf h.2]
theorem Ay{e:Dm}(h:eD d=eD e):d=e:=by
 simp only[eD,PV.tup.injEq]at h;exact qj (λa b e=>by simp only[PV.tup.injEq,wx,PV.int.injEq,and_true]at e;exact Prod.ext e.1 e.2) h
theorem adX(hb:σ[b]? =some (dC ds t))(ht:σ[t]? =some (.aU tl))(T:Tn ds cu m tl){s:String}{k:Int}(hi:cu[i]? =some d)(hz:i<1000000)(hs:jk s):C2 [.loc b,K3.pv (i,s,k)] σ=some (.bool (decide (eV s k d≠ [])),σ):=by
 refine fE rfl (bW (dz (aX (Em hb ht T hi hz hs rfl rfl) (y:= .tup []) rfl (tq (n:=2) (m:=1) (yr _) rfl (by decide) ?_)))) rfl;rw[h9];exact⟨λh e=>h (Ay (e:eD _=eD [])),λh e=>h (by rw[e];rfl)⟩
theorem acQ(hb:σ[b]? =some (dC ds t))(ht:σ[t]? =some (.aU tl))(T:Tn ds cu m tl){s:String}{k:Int}(hi:cu[i]? =some d)(hz:i<1000000)(hs:jk s):CP [.loc b,K3.pv (i,s,k)] σ=some (.bool (decide (eV s k d=d)),σ):=by
 refine fE rfl (bW (dz (aX (Em hb ht T hi hz hs rfl rfl) (tc hb ht T hi hz rfl (dH (i:=0) (v:= .int i) (l:= [.int i,.str s,.int k]) rfl rfl rfl (by decide))) (vg (n:=2) (m:=2) (yr _) (yr _) (by decide) ?_)))) rfl;rw[h9];exact⟨λh=>by rw[h],Ay⟩
theorem Am(h:t<σ.length){o:PO}(ho:PO.lt σ.length o=true):nh σ (σ.set t o):=by
 refine⟨by rw[kZ];exact cH _,λi y=> ?_⟩;by_cases e:i=t
 ·subst e;exact .inr ⟨o,j9 h,ho⟩
 ·exact .inl (oN (λz=>e z.symm))
theorem PQ(mF:b≠t)(hb:σ[b]? =some (dC ds t))(ht:σ[t]? =some (.aU tl))(T:Tn ds cu m tl)(hm:m≤1000){s:String}{k:Int}(hi:cu[i]? =some d)(hz:i<1000000)(hs:jk s)(hk: -3≤k∧k≤4):
 zI [.loc b,K3.pv (i,s,k)] σ=some (.bool (decide (eV s k d≠ [])),σ.set t (.aU (put (i:Int) (eD (eV s k d)) tl))):=by
 have hl:t<σ.length:=iF ht;generalize aZ:(bX ["self","literal"] [.loc b,K3.pv (i,s,k)] λz=>none)=a9;have h1:a9 "self"=some (.loc b):=by rw[←aZ];rfl
 have h2:a9 "literal"=some (K3.pv (i,s,k)):=by rw[←aZ];rfl
 have qU:(σ.set t (.aU (put (i:Int) (eD (eV s k d)) tl)))[b]? =some (dC ds t):=by rw[oN mF.symm];exact hb
 have gG:(σ.set t (.aU (put (i:Int) (eD (eV s k d)) tl)))[t]? =some (.aU (put (i:Int) (eD (eV s k d)) tl)):=j9 hl;have l0:∀{τ:ah},aG (af "literal") (aw 0) a9 τ=some (.int i,τ):=dH (i:=0) (v:= .int i) (aj h2) rfl rfl (by decide);have R:Rt L9 a9 σ (.bool (decide (eV s k d≠ []))) (σ.set t (.aU (put (i:Int) (eD (eV s k d)) tl))):=by
  refine cg (ai:=a9) (aq:=σ.set t (.aU (put (i:Int) (eD (eV s k d)) tl))) (jA (Em hb ht T hi hz hs h1 h2) (EB (jR (v:= .loc t) (aj h1) hb rfl) l0 ht (ao T.len (ao hm (by decide))))) ?_
  ·refine bW (dz (aX (dO (v:=eD (eV s k d)) (jR (v:= .loc t) (aj h1) qU rfl) l0 ?_) (y:= .tup []) rfl (tq (n:=2) (m:=1) (yr _) rfl (by decide) ?_)))
   ·have:dp (σ.set t (.aU (put (i:Int) (eD (eV s k d)) tl))) (.loc t)= .loc t:=by unfold dp;dsimp only;rw[gG]
    unfold fZ;rw[this];dsimp only;rw[gG];exact Mc
   ·rw[h9];exact⟨λh e=>h (Ay (e:eD _=eD [])),λh e=>h (by rw[e];rfl)⟩
 (refine bG R λai e=> ?_;clear R);exact mY rfl (by rw[aZ];exact e) rfl (Am hl (GK (EG T (i:=i) (xe (s:=s) (k:=k) hs hk (kM T hi)).1) _)) rfl (by rw[←kZ (i:=t) (a:=PO.aU (put (i:Int) (eD (eV s k d)) tl)),qc])
end
noncomputable def fG:List K3→Nat→List Int→List Int
 | [],_,vs=>vs
 |l::ks,i,vs=>fG ks i (if l.1=i then vs.filter (λv=> !lets l.2.1 l.2.2 v)else vs)
theorem Zy:∀(ks:List K3) (i:Nat),fG ks i []= []:=by
 intro x0
 induction x0 with
 |nil=>exact λz=>rfl
 |cons l ks ih=>exact λi=>(bV (fG ks i) (ite_self (c:=l.1=(i:Int)) [])).trans (ih i)
theorem zX:∀{ks:List K3} {i:Nat} {vs:List Int} {v:Int},v∈fG ks i vs↔v∈vs∧∀l∈ks,l.1=(i:Int)→lets l.2.1 l.2.2 v=false
 | [],i,vs,v=>⟨λh=>⟨h,λz=>nofun⟩,λh=>h.1⟩
 |l::ks,i,vs,v=>by
  refine(zX (ks:=ks)).trans ?_;by_cases h:l.1=(i:Int)
  ·rw[aP h];simp only[ib,cG,forall_eq_or_imp,h,true_implies,rf,and_assoc]
  ·rw[aS h];simp only[cG,forall_eq_or_imp,h,false_implies,true_and]
theorem sR{n:Nat}{l:K3}(h:dQ n l):∃i:Nat,l=((i:Int),l.2.1,l.2.2)∧i<n:=⟨l.1.toNat,by
 obtain⟨x,s,k⟩:=l;have:=h.1.1;rw[JR this],by have:=h.1;omega⟩
theorem Xv{i:Int}{s:String}{k:Int}:jE (i,s,k)=(i,(jE (i,s,k)).2.1,(jE (i,s,k)).2.2):=by
 unfold jE;by_cases h1:s="<="
 ·simp[h1]
 ·by_cases h2:s=">="
  ·simp[h1,h2]
  ·by_cases h3:s="="
   ·simp[h1,h2,h3]
   ·simp[h1,h2,h3]
section
variable{ρ ai:aO}{σ aq τ:ah}{ds cu:List Dm}{m b t:Nat}{tl:List (Int×PV)}
theorem u9(hb:b≠t){o:PO}(h:σ[b]? =some o):(σ.set t o')[b]? =some o:=by rw[oN hb.symm];exact h
theorem set_same{t:Nat}{o:PO}(h:σ[t]? =some o):σ.set t o=σ:=by
 refine uu λi=> ?_;by_cases e:t=i
 ·subst e;rw[j9 (iF h),h]
 ·rw[oN e]
theorem Xw(mF:b≠t):∀(ks:List K3) (ρ:aO) (σ:ah) (cu:List Dm) (m:Nat) (tl:List (Int×PV)),σ[b]? =some (dC ds t)→σ[t]? =some (.aU tl)→Tn ds cu m tl→m+ks.length≤1000→cu.length≤1000→(∀l∈ks,dQ cu.length l)→ρ "self"=some (.loc b)→
 ∃r gH fL ai,eU false 0 (a8 "literal") (ak (bt (bY (cB Hx)) fK aC) aC) (ks.map K3.pv) ρ σ=some (if r=true then .next else .ret (.bool false),ai,σ.set t (.aU fL))∧
  Tn ds gH (m+ks.length) fL∧gH.length=cu.length∧(r=true→(∀d∈cu,d≠ [])→(∀d∈gH,d≠ [])∧∀(i:Nat) d,cu[i]? =some d→∃e,gH[i]? =some e∧vals e=fG ks i (vals d))∧(r=false→∃i d,cu[i]? =some d∧fG ks i (vals d)= []):=by
 intro x0
 induction x0 with
 |nil=>exact λρ σ cu m tl hb ht T hm hc hk hs=>⟨true,cu,tl,ρ,by rw[set_same ht];rfl,T,rfl,λw h=>⟨h,λi d e=>⟨d,e,rfl⟩⟩,λh=>by cases h⟩
 |cons l ks ih=>
  intro ρ σ cu m tl hb ht T hm hc hk hs;refine aT (sR (hk l (.head _))) λi e hi=> ?_;have hL:=hk l (.head _);generalize l.2.1=s at e;generalize l.2.2=k at e;subst e;have hd:cu[i]? =some cu[i]:=cF hi;generalize cu[i]=d at hd;refine vr (NI (l:=((i:Int),s,k)) hL.2.1) λn1 n2 n3 n4 n5=> ?_;have k1:=hL.2.2;refine cM (Zx hL (kM T hd)) λg1 g2=> ?_;have np:=Xv (i:=i) (s:=s) (k:=k);generalize(jE ((i:Int),s,k)).2.1=s' at*;generalize(jE ((i:Int),s,k)).2.2=k' at*;have vG:=PQ mF hb ht T (cQ (b:=1) (ao (ao (bH (bR _ _) 1) hm) (aK rfl))) (s:=s') (k:=k') hd (ao (ao hi hc) (aK rfl)) n1 (by lia);have BZ:(ρ.set "literal" (K3.pv ((i:Int),s,k))) "self"=some (.loc b):=hs;have A4:cB Hx (ρ.set "literal" (K3.pv ((i:Int),s,k))) σ=some (decide (eV s' k' d≠ []),σ.set t (.aU (put (i:Int) (eD (eV s' k' d)) tl))):=
   dn ((jx (args:= [K3.pv ((i:Int),s',k')]) (aj BZ) hb rfl (aV ((bp (aV (aj rfl))).trans ((Wr hL.2.1).trans (by rw[np]))))).trans vG)
  have T2:=EG T (i:=i) g1;by_cases fH:eV s' k' d= []
  ·refine⟨false,cu.set i (eV s' k' d),put (i:Int) (eD (eV s' k' d)) tl,_,pd (aA:=ρ.set "literal" (K3.pv ((i:Int),s,k))) rfl (bS ((cT (fj (t:=false) (by rw[A4,bT (by simp[fH])]))).trans (bS (dE rfl)))),⟨T2.at',T2.dd,by have:=T2.len;exact ao this (bH (bR _ _) 1),T2.plain⟩,by simp,(λh=>by cases h),λw=>⟨i,d,hd,?_⟩⟩;exact(bV (fG ks i) ((aP rfl).trans (g2.symm.trans (by rw[fH];rfl)))).trans (Zy _ _)
  ·obtain⟨r,gH,fL,ai,f1,f2,f3,f4,f5⟩:=ih (ρ.set "literal" (K3.pv ((i:Int),s,k))) (σ.set t (.aU (put (i:Int) (eD (eV s' k' d)) tl))) (cu.set i (eV s' k' d)) (m+1) _ (u9 mF hb) (j9 (iF ht)) T2 (ao (bM (fS _ 1 _)) hm) (by simpa using hc) (by rw[kZ];exact λl h=>hk l (.tail _ ‹_›)) BZ;have step:∀j x,cu[j]? =some x→∃y,(cu.set i (eV s' k' d))[j]? =some y∧fG ks j (vals y)=fG (((i:Int),s,k)::ks) j (vals x):=λj x hx=>by
    by_cases q:j=i
    ·clear hk hL n2 k1 n4 n5 n3 np vG BZ A4 T2 f1 f3 f4 f5;subst q;refine⟨eV s' k' d,j9 hi,?_⟩;rw[hd]at hx;(refine cj hx λaL=> ?_;clear hx;subst aL);exact bV (fG ks _) (g2.trans (aP rfl).symm)
    ·refine⟨x,by rw[oN (λz=>q z.symm)];exact hx,?_⟩;exact bV (fG ks j) (aS (by intro z;exact q (by have:(i:Int)=j:=z;omega))).symm
   refine⟨r,gH,fL,ai,(ie (aA:=ρ.set "literal" (K3.pv ((i:Int),s,k))) rfl ((aR ((bZ (fj (t:=true) (by rw[A4,bN fH]))).trans rfl)).trans rfl)).trans (f1.trans (by rw[uH])),⟨f2.at',f2.dd,by have:=f2.len;exact ao this (bM (fS _ 1 _)),f2.plain⟩,by rw[f3,kZ],λhr hn=> ?_,λhr=> ?_⟩
   ·obtain⟨h1,h2⟩:=f4 hr (λx hx=>by
     rcases Jn hx with h|h
     ·exact hn x h
     ·exact h▸fH)
    refine⟨h1,λj x hx=> ?_⟩;refine aT (step j x hx) λy y1 y2=> ?_;refine aT (h2 j y y1) λe e1 e2=> ?_;exact⟨e,e1,e2.trans y2⟩
   ·refine gD (f5 hr) λj y y1 y2=> ?_;by_cases q:j=i
    ·clear hi hk hL n2 k1 n4 n5 n3 g2 np vG BZ A4 T2 f1 f3 f4 f5;subst q;refine aT (step j d hd) λz z1 z2=> ?_;rw[y1]at z1;(refine cj z1 λaL=> ?_;clear z1;subst aL);exact⟨j,d,hd,z2▸y2⟩
    ·have SX:cu[j]? =some y:=by rw[oN (λz=>q z.symm)]at y1;exact y1
     refine aT (step j y SX) λz z1 z2=> ?_;rw[y1]at z1;(refine cj z1 λaL=> ?_;clear z1;subst aL);exact⟨j,y,SX,z2▸y2⟩
theorem Ou(mF:b≠t){ks:List K3}(hb:σ[b]? =some (dC ds t))(ht:σ[t]? =some (.aU tl))(T:Tn ds cu m tl)(hm:m+ks.length≤1000)(hc:cu.length≤1000)(hk:∀l∈ks,dQ cu.length l):
 ∃r gH fL,DB [.loc b,.tup (ks.map K3.pv)] σ=some (.bool r,σ.set t (.aU fL))∧
  Tn ds gH (m+ks.length) fL∧gH.length=cu.length∧(r=true→(∀d∈cu,d≠ [])→(∀d∈gH,d≠ [])∧∀(i:Nat) d,cu[i]? =some d→∃e,gH[i]? =some e∧vals e=fG ks i (vals d))∧(r=false→∃i d,cu[i]? =some d∧fG ks i (vals d)= []):=by
 refine P6 (Xw (ds:=ds) mF ks (bX ["self","clause"] [.loc b,.tup (ks.map K3.pv)] λz=>none) σ cu m tl hb ht T hm hc hk rfl) λr gH fL ai f1 f2 f3 f4 f5=> ?_;refine⟨r,gH,fL,?_,f2,f3,f4,f5⟩;have bJ:(σ.set t (.aU fL)).take σ.length=σ.set t (.aU fL):=by rw[←kZ (i:=t) (a:=PO.aU fL),qc]
 cases r with
 |true=>exact mY rfl ((aR ((gk rfl).trans f1)).trans (bS (dE rfl))) rfl (Am (iF ht) (GK f2 _)) rfl bJ
 |false=>exact mY rfl (bS ((gk rfl).trans f1)) rfl (Am (iF ht) (GK f2 _)) rfl bJ
end
noncomputable def bf(vs:List Int):PV:= .lst (vs.map .int)
noncomputable def bh(ks:List K3):PV:= .tup (ks.map K3.pv)
noncomputable def eZ(L:List (List Int))(l:K3):List Int:=L.getD l.1.toNat []
noncomputable def oneOf(ab:List K3)(f:K3→Bool):Bool:=match ab with
 | []=>true
 | [l]=>f l
 |_=>false
noncomputable def ir:List (List K3)→List (List Int)→Bool
 | [],_=>false
 |ln::ls,L=>if(ln.filter λl=>decide ((eZ L l).filter (λv=> !lets l.2.1 l.2.2 v)= []))= []then
  oneOf (ln.filter λl=>decide ((eZ L l).filter (λv=>lets l.2.1 l.2.2 v)≠ [])) λl=>ir ls (L.set l.1.toNat ((eZ L l).filter λv=>lets l.2.1 l.2.2 v))
  else ir ls L
def fb(ks:List K3)(L:List (List Int)):List (List Int):=L.mapIdx λi vs=>fG ks i vs
def mG(ks:List K3)(ls:List (List K3))(L:List (List Int)):Bool:=if []∈fb ks L then true else ir ls (fb ks L)
theorem Wu{l:K3}{ks:List K3}{L:List (List Int)}(h:l.1=(i:Int)){vs:List Int}(hv:L[i]? =some vs):fb (l::ks) L=fb ks (L.set i (vs.filter λv=> !lets l.2.1 l.2.2 v)):=by
 refine uu λj=> ?_;show(L.mapIdx _)[j]? =(List.mapIdx _ _)[j]?;rw[wi,wi];by_cases q:i=j
 ·subst q;rw[j9 (fe.mp hv).1,hv];exact bV (λz=>some (fG ks _ z)) (aP h)
 ·rw[oN q];cases L[j]? with
  |none=>rfl
  |some x=>exact bV (λz=>some (fG ks _ z)) (aS (λz:l.1=(j:Int)=>q (by lia)))
theorem va(n:Nat)(vs:List Int):PV.lt n (bf vs)=true:=n7 λz z=>rfl
theorem xn(n:Nat)(ks:List K3):PV.lt n (bh ks)=true:=n7 λz z=>rfl
theorem sS(vs:List Int):Pl 1 (bf vs)=true:=by
 exact kg.mpr λp hp=>by obtain⟨x,_,rfl⟩:=dR.mp hp;rfl
theorem vh{a b:K3}(h:a.pv=b.pv):a=b:=by
 obtain⟨x,s,k⟩:=a;obtain⟨y,t,j⟩:=b;simp only[K3.pv,PV.tup.injEq,wx,PV.int.injEq,PV.str.injEq,and_true]at h;obtain⟨rfl,rfl,rfl⟩:=h;rfl
theorem D2{a b:List Int}(h:bf a=bf b):a=b:=qj (λz z e=>PV.int.inj e) (PV.lst.inj h)
section
variable{ρ ai:aO}{σ aq τ:ah}
theorem sJ{n:Nat}{l:List PV}(h:mE n l=true)(hn:n≤58){b:Bool}(hb:b=decide (l= [])):bA σ (.lst l) (.lst [])=some b:=by
 refine vg (n:=n+1) (m:=1) (p:= .lst l) h rfl (ao (bH hn 1) (aK rfl)) ?_;rw[hb,h9,PV.lst.injEq]
theorem rz{n:Nat}{l:List PV}(h:mE n l=true)(hn:n≤58){b:Bool}(hb:b=decide (l≠ [])):cA σ (.lst l) (.lst [])=some b:=by
 refine tq (n:=n+1) (m:=1) (p:= .lst l) h rfl (ao (bH hn 1) (aK rfl)) ?_;rw[hb,h9,ne_eq,ne_eq,PV.lst.injEq]
theorem zY(vs:List Int):mE 0 (vs.map PV.int)=true:=kg.mpr λp hp=>by obtain⟨x,_,rfl⟩:=dR.mp hp;rfl
theorem iA(ks:List K3):mE 1 (ks.map K3.pv)=true:=kg.mpr λp hp=>by obtain⟨x,_,rfl⟩:=dR.mp hp;rfl
theorem Ov{o:CE}{l:K3}{vs:List Int}(hs:jk l.2.1)(hz:vs.length≤1000000)(hit:it ρ σ=some (vs.map .int,σ))(ho:∀v τ,o ((ρ.drop [".0","v"]).set "v" (.int v)) (σ++τ)=some (l.pv,σ++τ)):
 runC false [".0","v"] it (a8 "v") (bY (cB (aN rn [o,af "v"]))) (λk=>bK (af "v") k) bQ ρ σ=some (bf (vs.filter λv=> !lets l.2.1 l.2.2 v),σ):=
 jL vs PV.int PV.int (λv=> !lets l.2.1 l.2.2 v) hit hz (λv z x=>fj (dn ((bp (bC (ho v _) (aV rfl))).trans (ED hs v)))) (λz z z z=>rfl) λz z z=>rfl
theorem Ow{o:CE}{l:K3}{vs:List Int}(hs:jk l.2.1)(hz:vs.length≤1000000)(hit:it ρ σ=some (vs.map .int,σ))(ho:∀v τ,o ((ρ.drop [".0","v"]).set "v" (.int v)) (σ++τ)=some (l.pv,σ++τ)):
 runC false [".0","v"] it (a8 "v") (cB (aN rn [o,af "v"])) (λk=>bK (af "v") k) bQ ρ σ=some (bf (vs.filter λv=>lets l.2.1 l.2.2 v),σ):=
 jL vs PV.int PV.int (λv=>lets l.2.1 l.2.2 v) hit hz (λv z x=>dn ((bp (bC (ho v _) (aV rfl))).trans (ED hs v))) (λz z z z=>rfl) λz z z=>rfl
theorem Ox{c:CE}{L:List (List Int)}{vs:List Int}(hl:ρ "left"=some (.loc k))(hk:σ[k]? =some (.list (L.map bf)))(hc:c ρ σ=some (.int i,σ))(hi:L[i]? =some vs)(hz:i<1000000):aG (af "left") c ρ σ=some (bf vs,σ):=by
 refine dO (aj hl) hc ?_;have:dp σ (.loc k)= .lst (L.map bf):=by unfold dp;dsimp only;rw[hk]
 unfold fZ;rw[this];exact rp (by rw[eM,hi];rfl) hz
theorem MT{L:List (List Int)}{l:K3}(h:l.1=(i:Int)){vs:List Int}(hi:L[i]? =some vs):eZ L l=vs:=by
 unfold eZ;rw[h,eX,hi];rfl
theorem zJ{L:List (List Int)}{l:K3}(h:dQ L.length l):∃i:Nat,l.1=(i:Int)∧l.1.toNat=i∧i<L.length∧L[i]? =some (eZ L l):=by
 refine aT (sR h) λi e hi=> ?_;have e1:l.1=(i:Int):=by rw[e]
 exact⟨i,e1,by rw[e1];rfl,hi,by rw[cF hi,MT e1 (cF hi)]⟩
theorem Bw{l:K3}(h:l.1=(i:Int)){x:String}(hx:ρ x=some l.pv):aG (af x) (aw 0) ρ σ=some (.int i,σ):=by
 obtain⟨a,s,k⟩:=l;cases h;exact dH (i:=0) (aj hx) rfl rfl (by decide)
def nK(L:List (List Int)):Prop:=L.length≤1000∧∀vs∈L,vs.length≤1000
theorem nK.set{L:List (List Int)}(h:nK L)(i:Nat){vs:List Int}(hv:vs.length≤1000):nK (L.set i vs):=⟨by rw[kZ];exact h.1,λx hx=>by
 rcases Jn hx with h1|h1
 ·exact h.2 x h1
 ·exact h1▸hv⟩
theorem nK.at{L:List (List Int)}(h:nK L){vs:List Int}(e:L[i]? =some vs):vs.length≤1000:=h.2 vs (lM e)
theorem MU{c e:CE}{L:List (List Int)}{vs:List Int}(hl:ρ "left"=some (.loc k))(hk:σ[k]? =some (.list (L.map bf)))(he:e ρ σ=some (bf vs,σ))(hc:c ρ σ=some (.int i,σ))(hi:i<L.length)(hz:L.length≤1000):cW e (gm (af "left") c) ρ σ=some (.next,ρ,σ.set k (.list ((L.set i vs).map bf))):=by
 rw[List.map_set];exact jA he (Ol (aj hl) hc hk (by rw[bB];exact hi) (by rw[bB];exact ao hz (aK rfl)))
end
section
abbrev adY:CS:=ak Pk aC
abbrev A5:CS:=Sz
end
section
variable{ρ ai:aO}{σ aq τ:ah}{k:Nat}{L:List (List Int)}
theorem PR{o:CE}{l:K3}(h:l.1=(i:Int))(hx:o ρ σ=some (l.pv,σ)):aG o (aw 0) ρ σ=some (.int i,σ):=by
 obtain⟨a,s,k⟩:=l;cases h;exact dH (i:=0) hx rfl rfl (by decide)
theorem GL{l:K3}(hl:ρ "left"=some (.loc k))(hk:σ[k]? =some (.list (L.map bf)))(hL:nK L)(h:dQ L.length l){x:String}(hx:ρ x=some l.pv):bE (aG (af "left") (aG (af x) (aw 0))) ρ σ=some ((eZ L l).map .int,σ):=by
 refine l5 (zJ h) λi e1 z h2 h3=> ?_;exact dq (Ox hl hk (Bw e1 hx) h3 (by have:=hL.1;exact ao (ao h2 this) (aK rfl))) rfl
theorem An{l:K3}(hL:nK L)(h:dQ L.length l):(eZ L l).length≤1000:=by
 refine l5 (zJ h) λi z z z h3=> ?_;exact hL.at h3
theorem VS:∀(ks:List K3) (ρ:aO) (σ:ah) (L:List (List Int)),ρ "left"=some (.loc k)→σ[k]? =some (.list (L.map bf))→nK L→(∀l∈ks,dQ L.length l)→
 ∃ai,eU false 0 (a8 "one") adY (ks.map K3.pv) ρ σ=some (.next,ai,σ.set k (.list ((fb ks L).map bf)))∧∀x,x≠"one"→ai x=ρ x:=by
 intro x0
 induction x0 with
 |nil=>exact λρ σ L hl hk hL h=>⟨ρ,by
  have:fb [] L=L:=by
   refine uu λj=> ?_;simp only[fb,wi];cases L[j]? <;>rfl
  rw[this,set_same hk];rfl,λz z=>rfl⟩
 |cons l ks ih=>
  intro ρ σ L hl hk hL h;have rV:(ρ.set "one" l.pv) "left"=some (.loc k):=hl;have rJ:=h l (.head _);refine l5 (zJ rJ) λi e1 z h2 h3=> ?_;have hz:=An hL rJ;obtain⟨ai,f1,f2⟩:=ih (ρ.set "one" l.pv) (σ.set k (.list ((L.set i ((eZ L l).filter λv=> !lets l.2.1 l.2.2 v)).map bf))) _ rV (j9 (iF hk)) (hL.set i (vs:=(eZ L l).filter λv=> !lets l.2.1 l.2.2 v) (ao (p8 ..) hz)) (by rw[kZ];exact λx hx=>h x (.tail _ ‹_›));refine⟨ai,?_,λx hx=>(f2 x hx).trans (by unfold aO.set;rw[aS hx])⟩;refine(ie (aA:=ρ.set "one" l.pv) rfl ((aR (MU (ρ:=ρ.set "one" l.pv) (c:=aG (af "one") (aw 0)) rV hk (Ov (o:=af "one") rJ.2.1 (ao hz (by decide)) (GL rV hk hL rJ (x:="one") rfl) (λz z=>aj rfl)) (Bw e1 rfl) h2 hL.1)).trans rfl)).trans (f1.trans ?_);rw[uH,Wu e1 h3]
theorem Xx{ln:List K3}(hl:ρ "left"=some (.loc k))(hk:σ[k]? =some (.list (L.map bf)))(hL:nK L)(hn:ρ "line"=some (bh ln))(h:∀l∈ln,dQ L.length l)(hz:ln.length≤1000):
 runC false [".0","one"] (bE (af "line")) (a8 "one") (aJ bA HE (dc [])) (λk=>bK (af "one") k) bQ ρ σ=
  some (.lst ((ln.filter λl=>decide ((eZ L l).filter (λv=> !lets l.2.1 l.2.2 v)= [])).map K3.pv),σ)∧
 runC false [".0","one"] (bE (af "line")) (a8 "one") QX (λk=>bK (af "one") k) bQ ρ σ=
  some (.lst ((ln.filter λl=>decide ((eZ L l).filter (λv=>lets l.2.1 l.2.2 v)≠ [])).map K3.pv),σ):=by
 constructor
 ·refine jL ln K3.pv K3.pv _ (dq (aj hn) rfl) (ao hz (by decide)) (λl hm x=> ?_) (λz z z z=>rfl) λz z z=>rfl;have h1:((ρ.drop [".0","one"]).set "one" l.pv) "left"=some (.loc k):=hl;refine aX (Ov (o:=af "one") (h l hm).2.1 (ao (An hL (h l hm)) (by decide)) (GL h1 (fB hk _) hL (h l hm) (x:="one") rfl) (λz z=>aj rfl)) rfl (sJ (zY _) (by decide) ?_);rw[rg];simp only[q8]
 ·refine jL ln K3.pv K3.pv _ (dq (aj hn) rfl) (ao hz (by decide)) (λl hm x=> ?_) (λz z z z=>rfl) λz z z=>rfl;have h1:((ρ.drop [".0","one"]).set "one" l.pv) "left"=some (.loc k):=hl;refine aX (Ow (o:=af "one") (h l hm).2.1 (ao (An hL (h l hm)) (by decide)) (GL h1 (fB hk _) hL (h l hm) (x:="one") rfl) (λz z=>aj rfl)) rfl (rz (zY _) (by decide) ?_);rw[rg];simp only[ne_eq,q8]
theorem Wv:∀(ls:List (List K3)) (ρ:aO) (σ:ah) (L:List (List Int)),ρ "left"=some (.loc k)→σ[k]? =some (.list (L.map bf))→nK L→(∀ks∈ls,ks.length≤1000∧∀l∈ks,dQ L.length l)→
 ∃fl ai,∃L':List (List Int),eU false 0 (a8 "line") A5 (ls.map bh) ρ σ=some (fl,ai,σ.set k (.list (L'.map bf)))∧(fl= .ret (.bool (ir ls L))∨(fl= .next∧ir ls L=false)):=by
 intro x0
 induction x0 with
 |nil=>exact λρ σ L hl hk hL h=>⟨.next,ρ,L,by rw[set_same hk];rfl,.inr ⟨rfl,rfl⟩⟩
 |cons ln ls ih=>
  intro ρ σ L hl hk hL h;refine cM (h ln (.head _)) λhz tR=> ?_;have xx:∀ks∈ls,ks.length≤1000∧∀l∈ks,dQ L.length l:=λks qX=>h ks (.tail _ ‹_›);have rV:(ρ.set "line" (bh ln)) "left"=some (.loc k):=hl;refine cM (Xx (ρ:=ρ.set "line" (bh ln)) rV hk hL rfl tR hz) λc1 c2=> ?_;by_cases hA:(ln.filter λl=>decide ((eZ L l).filter (λv=> !lets l.2.1 l.2.2 v)= []))= []
  ·
    have s1:∀{b:CS},ak QW b (ρ.set "line" (bh ln)) σ=b (ρ.set "line" (bh ln)) σ:=aR ((bZ (aX c1 rfl (rz (iA _) (by decide) (hA▸rfl)))).trans rfl);have hu:ir (ln::ls) L=oneOf (ln.filter λl=>decide ((eZ L l).filter (λv=>lets l.2.1 l.2.2 v)≠ [])) λl=>ir ls (L.set l.1.toNat ((eZ L l).filter λv=>lets l.2.1 l.2.2 v)):=aP hA;have jW:∀x∈(ln.filter λl=>decide ((eZ L l).filter (λv=>lets l.2.1 l.2.2 v)≠ [])),x∈ln:=λx hx=>(ib.mp hx).1;have bJ:=p8 (λl:K3=>decide ((eZ L l).filter (λv=>lets l.2.1 l.2.2 v)≠ [])) ln;generalize(ln.filter λl=>decide ((eZ L l).filter (λv=>lets l.2.1 l.2.2 v)≠ []))=ab at*;generalize aZ:(ρ.set "line" (bh ln)).set "able" (.lst (ab.map K3.pv))=aA;have g1:aA "able"=some (.lst (ab.map K3.pv)):=aZ▸rfl;have g2:aA "left"=some (.loc k):=aZ▸hl;have gl:aN cq [af "able"] aA σ=some (.int (ab.length:Nat),σ):=(bp (aV (aj g1))).trans ((aP (by rw[bB];exact ao (ao (bH bJ 1) (bH hz 1)) (aK rfl))).trans (by rw[bB]));have pre:∀{fl:Fl} {ai:aO} {aq:ah} {b:CS},b aA σ=some (fl,ai,aq)→ak QY b (ρ.set "line" (bh ln)) σ=some (fl,ai,aq):=λh=>(aR ((cf c2).trans (by rw[aZ]))).trans h;have ret:ab.length≠1→∃fl ai,∃L':List (List Int),eU false 0 (a8 "line") A5 (bh ln::ls.map bh) ρ σ=some (fl,ai,σ.set k (.list (L'.map bf)))∧(fl= .ret (.bool (ir (ln::ls) L))∨(fl= .next∧ir (ln::ls) L=false)):=λfH=>by
     refine⟨_,aA,L,?_,.inl rfl⟩;rw[set_same hk];refine pd (aA:=ρ.set "line" (bh ln)) rfl (s1.trans (pre (bS ((cT (aX gl rfl (t:=true) ?_)).trans (bS (dE (dz (aX (aj g1) rfl (sJ (iA _) (by decide) ?_)))))))))
     ·show(bA σ _ _).map _=_;rw[gL,bT (by lia)];rfl
     ·rw[hu]
      match ab,fH with
      | [],_=>rfl
      | [_],h=>exact bP rfl h
      |_::_::_,_=>rfl
    match ab,ret with
    | [],ret=>exact ret (by decide)
    |_::_::_,ret=>exact ret nofun
    | [l],_=>
     have rJ:=tR l (jW l (.head _));refine l5 (zJ rJ) λi e1 e2 h2 h3=> ?_;have SY:=An hL rJ;have a0:aG (af "able") (aw 0) aA σ=some (l.pv,σ):=gA (i:=0) (aj g1) rfl rfl (by decide);have dJ:∀v τ,(aG (af "able") (aw 0)) ((aA.drop [".0","v"]).set "v" (.int v)) (σ++τ)=some (l.pv,σ++τ):=λv τ=>by
      exact gA (i:=0) (aj g1) rfl rfl (by decide)
     obtain⟨fl,ai,L',f1,f2⟩:=ih aA (σ.set k (.list ((L.set i ((eZ L l).filter λv=>lets l.2.1 l.2.2 v)).map bf))) _ g2 (j9 (iF hk)) (hL.set i (vs:=(eZ L l).filter λv=>lets l.2.1 l.2.2 v) (ao (p8 ..) SY)) (by rw[kZ];exact xx);refine⟨fl,ai,L',?_,by rw[hu];unfold oneOf;dsimp only;rw[e2];exact f2⟩;refine(ie (aA:=ρ.set "line" (bh ln)) (ai:=aA) rfl (s1.trans (pre ((aR ((bZ (aX gl rfl (t:=false) ?_)).trans rfl)).trans ((aR (MU (ρ:=aA) (c:=aG (aG (af "able") (aw 0)) (aw 0)) g2 hk (Ow (o:=aG (af "able") (aw 0)) rJ.2.1 (ao SY (by decide)) (dq (Ox g2 hk (PR e1 a0) h3 (by have:=hL.1;exact ao (ao h2 this) (aK rfl))) rfl) dJ) (PR e1 a0) h2 hL.1)).trans rfl))))).trans (f1.trans (by rw[uH]));show(bA σ _ _).map _=_;rw[gL];rfl
  ·have hu:ir (ln::ls) L=ir ls L:=aS hA;rw[hu];refine ku (ih (ρ.set "line" (bh ln)) σ L rV hk hL xx) λfl ai L' f1 f2=> ?_;exact⟨fl,ai,L',(MO (aA:=ρ.set "line" (bh ln)) rfl (zW ((cT (aX c1 rfl (rz (iA _) (by decide) (by rw[bN (by simpa using hA)])))).trans (zW rfl)))).trans f1,f2⟩
theorem VT{ks:List K3}{ls:List (List K3)}(hL:nK L)(hk:∀l∈ks,dQ L.length l)(IT:∀ks∈ls,ks.length≤1000∧∀l∈ks,dQ L.length l):C8 [.lst (L.map bf),bh ks,.lst (ls.map bh)] σ=some (.bool (mG ks ls L),σ):=by
 generalize aZ:((bX ["lots","clause","lines"] [.lst (L.map bf),bh ks,.lst (ls.map bh)] λz=>none).set "left" (.loc σ.length))=a9;have g1:a9 "left"=some (.loc σ.length):=aZ▸rfl;refine aT (VS ks a9 (σ++ [.list (L.map bf)]) L g1 (fh _ _ _) hL hk) λaA f1 f2=> ?_;rw[iD]at f1;have g4:aA "left"=some (.loc σ.length):=(f2 _ (by decide)).trans g1;have g5:aA "lines"=some (.lst (ls.map bh)):=(f2 _ (by decide)).trans (aZ▸rfl);have Ir:nK (fb ks L):=⟨by rw[List.length_mapIdx];exact hL.1,λvs IU=>by
  obtain⟨i,hi,rfl⟩:=JN.mp IU;simp only[fb,List.getElem_mapIdx];have:∀(ks:List K3) (i:Nat) (vs:List Int),(fG ks i vs).length≤vs.length:=λks=>by
   induction ks with
   |nil=>exact λz z=>cH _
   |cons l ks ih=>
    intro i vs;refine ao (ih _ _) ?_;split
    ·exact p8 ..
    ·exact cH _
  exact ao (this _ _ _) (hL.2 _ (mN _))⟩
 have S0:(σ++ [PO.list ((fb ks L).map bf)])[σ.length]? =some (.list ((fb ks L).map bf)):=fh _ _ _;have pre:∀{fl:Fl} {ai:aO} {aq:ah},ak (bt (aJ di (dc []) (af "left")) kN aC) (ak (ft (bE (af "lines")) (a8 "line") A5) fK) aA (σ++ [.list ((fb ks L).map bf)])=some (fl,ai,aq)→
  KC (bX ["lots","clause","lines"] [.lst (L.map bf),bh ks,.lst (ls.map bh)] λz=>none) σ=some (fl,ai,aq):=λh=>by
  refine(aR (cf (aba L bf bf rfl (ao hL.1 (by decide)) λy hy l=> ?_))).trans ?_
  ·exact(bp (args:= [bf y]) (aV rfl)).trans (aP (show(y.map PV.int).length≤100000 by rw[bB];exact ao (hL.2 y hy) (aK rfl)))
  ·rw[aZ];exact(aR ((gk (dq (aj (aZ▸rfl:a9 "clause"=some (bh ks))) rfl)).trans f1)).trans h
 have dJ:∀{b:Bool},b=decide (([]:List Int)∈fb ks L)→aJ di (dc []) (af "left") aA (σ++ [.list ((fb ks L).map bf)])=some (b,σ++ [.list ((fb ks L).map bf)]):=λhb=>by
  refine aX rfl (aj g4) (xk (n:=1) (m:=1) (l:=(fb ks L).map bf) (by unfold dp;dsimp only;rw[S0]) rfl (kg.mpr λp hp=> ?_) (by decide) ?_)
  ·obtain⟨x,_,rfl⟩:=dR.mp hp;exact sS x
  ·rw[hb,h9,dR];exact⟨λh=>⟨[],h,rfl⟩,λ⟨x,h,e⟩=>by rw[←D2 (b:= []) e];exact h⟩
 by_cases hA:([]:List Int)∈fb ks L
 ·have:mG ks ls L=true:=aP hA;rw[this];exact uS rfl (pre (bS ((cT (dJ (bN hA).symm)).trans (bS (dE rfl))))) rfl
 ·have:mG ks ls L=ir ls (fb ks L):=aS hA;rw[this];refine ku (Wv ls aA (σ++ [.list ((fb ks L).map bf)]) (fb ks L) g4 S0 Ir ((by rw[List.length_mapIdx]:(fb ks L).length=L.length)▸IT)) λfl bL L' h1 h2=> ?_;rw[iD]at h1;have h3:∃dw,ak (ft (bE (af "lines")) (a8 "line") A5) fK aA (σ++ [.list ((fb ks L).map bf)])=some (.ret (.bool (ir ls (fb ks L))),dw,σ++ [.list (L'.map bf)]):=by
   rcases h2 with rfl|⟨rfl,e⟩
   ·exact⟨_,bS ((gk (dq (aj g5) rfl)).trans h1)⟩
   ·rw[e];exact⟨_,(aR ((gk (dq (aj g5) rfl)).trans h1)).trans (bS (dE rfl))⟩
  refine bG h3 λdw h3=> ?_;exact uS rfl (pre ((aR ((bZ (dJ (bT hA).symm)).trans rfl)).trans h3)) rfl
end
section
abbrev GN:CS:=QR
end
theorem abd{s:String}{k:Int}(hs:jk s)(hk: -3≤k∧k≤4)(hd:d∈DD):decide (eV s k d=d)=decide ((vals d).filter (λv=> !lets s k v)= []):=by
 refine cM (xe hs hk hd) λh1 h2=> ?_;rw[rg];constructor
 ·intro h;rw[h]at h2;rw[oM];intro v hv;have:=(yG.mp h2.symm) v hv;simp[this]
 ·intro h;refine acO _ h1 _ hd (h2.trans (yG.mpr λv hv=> ?_));have:=(oM.mp h) v hv;simpa using this
theorem Oy{s:String}{k:Int}(hs:jk s)(hk: -3≤k∧k≤4)(hd:d∈DD):decide (eV s k d≠ [])=decide ((vals d).filter (lets s k)≠ []):=by
 refine cM (xe hs hk hd) λh1 h2=> ?_;rw[rg,←h2];exact⟨λh e=>h (xm _ h1 e),λh e=>h (by rw[e];rfl)⟩
variable{al:List (String×PV)}
section
variable{ρ ai:aO}{σ aq τ:ah}{ds cu:List Dm}{m b t:Nat}{tl:List (Int×PV)}
theorem EH{l:K3}(h:dQ cu.length l):∃(i:Nat) (d:Dm),l=((i:Int),l.2.1,l.2.2)∧l.1.toNat=i∧i<cu.length∧cu[i]? =some d∧eZ (cu.map vals) l=vals d:=by
 refine aT (sR h) λi e hi=> ?_;have e1:l.1=(i:Int):=by rw[e]
 exact⟨i,cu[i],e,by rw[e1];rfl,hi,cF hi,MT e1 (by rw[eM,cF hi];rfl)⟩
theorem Zz{ln:List K3}(hb:σ[b]? =some (dC ds t))(ht:σ[t]? =some (.aU tl))(T:Tn ds cu m tl)(hc:cu.length≤1000)(h1:ρ "box"=some (.loc b))(hn:ρ "line"=some (bh ln))(h:∀l∈ln,dQ cu.length l)(hz:ln.length≤1000):
 runC false [".0","literal"] (bE (af "line")) (a8 "literal") O9 (λk=>bK (af "literal") k) bQ ρ σ=
  some (.lst ((ln.filter λl=>decide ((eZ (cu.map vals) l).filter (λv=> !lets l.2.1 l.2.2 v)= [])).map K3.pv),σ)∧
 runC false [".0","literal"] (bE (af "line")) (a8 "literal") Pa (λk=>bK (af "literal") k) bQ ρ σ=
  some (.lst ((ln.filter λl=>decide ((eZ (cu.map vals) l).filter (λv=>lets l.2.1 l.2.2 v)≠ [])).map K3.pv),σ):=by
 constructor
 ·refine jL ln K3.pv K3.pv _ (dq (aj hn) rfl) (ao hz (by decide)) (λl hm x=> ?_) (λz z z z=>rfl) λz z z=>rfl;refine xE (EH (h l hm)) λi d e1 z e3 e4 e5=> ?_;have hk:=(h l hm).2.2;have hs:=(h l hm).2.1;have g1:((ρ.drop [".0","literal"]).set "literal" l.pv) "box"=some (.loc b):=h1;refine dn ((jx (aj g1) (fB hb _) rfl (aV rfl)).trans ?_);rw[e5,←abd hs ⟨dS (gV (by decide) hk.1),dS (i9 hk.2 (by decide))⟩ (kM T e4)];have:=acQ (s:=l.2.1) (k:=l.2.2) (fB hb [.list x]) (fB ht [.list x]) T e4 (ao (ao e3 hc) (aK rfl)) hs;rw[←e1]at this;exact this
 ·refine jL ln K3.pv K3.pv _ (dq (aj hn) rfl) (ao hz (by decide)) (λl hm x=> ?_) (λz z z z=>rfl) λz z z=>rfl;refine xE (EH (h l hm)) λi d e1 z e3 e4 e5=> ?_;have hk:=(h l hm).2.2;have hs:=(h l hm).2.1;have g1:((ρ.drop [".0","literal"]).set "literal" l.pv) "box"=some (.loc b):=h1;refine dn ((jx (aj g1) (fB hb _) rfl (aV rfl)).trans ?_);rw[e5,←Oy hs ⟨dS (gV (by decide) hk.1),dS (i9 hk.2 (by decide))⟩ (kM T e4)];have:=adX (s:=l.2.1) (k:=l.2.2) (fB hb [.list x]) (fB ht [.list x]) T e4 (ao (ao e3 hc) (aK rfl)) hs;rw[←e1]at this;exact this
theorem Xy(mF:b≠t):∀(ls:List (List K3)) (ρ:aO) (σ:ah) (cu:List Dm) (m:Nat) (tl:List (Int×PV)),σ[b]? =some (dC ds t)→σ[t]? =some (.aU tl)→Tn ds cu m tl→m+ls.length≤1000→cu.length≤1000→(∀ks∈ls,ks.length≤1000∧∀l∈ks,dQ cu.length l)→ρ "box"=some (.loc b)→
 ∃fl ai fL gH m',eU false 0 (a8 "line") GN (ls.map bh) ρ σ=some (fl,ai,σ.set t (.aU fL))∧Tn ds gH m' fL∧(fl= .ret (.bool (ir ls (cu.map vals)))∨(fl= .next∧ir ls (cu.map vals)=false)):=by
 intro x0
 induction x0 with
 |nil=>exact λρ σ cu m tl hb ht T hm hc h h1=>⟨.next,ρ,tl,cu,m,by rw[set_same ht];rfl,T,.inr ⟨rfl,rfl⟩⟩
 |cons ln ls ih=>
  intro ρ σ cu m tl hb ht T hm hc h h1;refine cM (h ln (.head _)) λhz tR=> ?_;have xx:∀ks∈ls,ks.length≤1000∧∀l∈ks,dQ cu.length l:=λks qX=>h ks (.tail _ ‹_›);have g0:(ρ.set "line" (bh ln)) "box"=some (.loc b):=h1;refine cM (Zz (ρ:=ρ.set "line" (bh ln)) hb ht T hc g0 rfl tR hz) λc1 c2=> ?_;by_cases hA:(ln.filter λl=>decide ((eZ (cu.map vals) l).filter (λv=> !lets l.2.1 l.2.2 v)= []))= []
  ·have t1:∀{τ:ah},cA τ (.lst ((ln.filter λl=>decide ((eZ (cu.map vals) l).filter (λv=> !lets l.2.1 l.2.2 v)= [])).map K3.pv)) (.lst [])=some false:=rz (iA _) (by decide) (by rw[hA];rfl);have hu:ir (ln::ls) (cu.map vals)=oneOf (ln.filter λl=>decide ((eZ (cu.map vals) l).filter (λv=>lets l.2.1 l.2.2 v)≠ [])) λl=>ir ls ((cu.map vals).set l.1.toNat ((eZ (cu.map vals) l).filter λv=>lets l.2.1 l.2.2 v)):=aP hA;have jW:∀x∈(ln.filter λl=>decide ((eZ (cu.map vals) l).filter (λv=>lets l.2.1 l.2.2 v)≠ [])),x∈ln∧(eZ (cu.map vals) x).filter (λv=>lets x.2.1 x.2.2 v)≠ []:=λx hx=>⟨(ib.mp hx).1,fQ (ib.mp hx).2⟩;have bJ:=p8 (λl:K3=>decide ((eZ (cu.map vals) l).filter (λv=>lets l.2.1 l.2.2 v)≠ [])) ln;generalize(ln.filter λl=>decide ((eZ (cu.map vals) l).filter (λv=>lets l.2.1 l.2.2 v)≠ []))=ab at*;generalize aZ:(ρ.set "line" (bh ln)).set "left" (.lst (ab.map K3.pv))=aA;have g1:aA "left"=some (.lst (ab.map K3.pv)):=by rw[←aZ];rfl
   have g2:aA "box"=some (.loc b):=by rw[←aZ];exact h1
   have gl:aN cq [af "left"] aA σ=some (.int (ab.length:Nat),σ):=(bp (aV (aj g1))).trans ((aP (by rw[bB];exact ao (ao (bH bJ 1) (bH hz 1)) (aK rfl))).trans (by rw[bB]));have pre:∀{fl:Fl} {ai:aO} {aq:ah} {c:CS},c aA σ=some (fl,ai,aq)→(ak QO
    (ak QQ c)) (ρ.set "line" (bh ln)) σ=some (fl,ai,aq):=λh=>
    (aR ((bZ (aX c1 rfl t1)).trans rfl)).trans ((aR ((cf c2).trans (by rw[aZ]))).trans h)
   have e0:∀{τ:ah} {x:Bool},x=decide (ab= [])→bA τ (.lst (ab.map K3.pv)) (.lst [])=some x:=λhx=>sJ (iA _) (by decide) (by rw[hx,rg,q8]);rw[hu];clear c2 hu bJ aZ;rcases ab with _|⟨l,_|⟨y,r⟩⟩
   ·refine⟨_,aA,tl,cu,m,?_,T,.inl rfl⟩;rw[set_same ht];exact pd (aA:=ρ.set "line" (bh ln)) rfl (pre (bS ((cT (aX (aj g1) rfl (e0 rfl))).trans (bS (dE rfl)))))
   ·refine cM (jW l (.head _)) λdJ fH=> ?_;refine xE (EH (tR l dJ)) λi d e1 e2 e3 e4 e5=> ?_;have hk:=(tR l dJ).2.2;have hs:=(tR l dJ).2.1;have B1:=kM T e4;refine cM (xe hs (k:=l.2.2) ⟨dS (gV (by decide) hk.1),dS (i9 hk.2 (by decide))⟩ B1) λs1 s2=> ?_;have Ry:=Oy hs (k:=l.2.2) ⟨dS (gV (by decide) hk.1),dS (i9 hk.2 (by decide))⟩ B1;rw[e5]at fH;rw[bN fH]at Ry;have vG:=PQ (s:=l.2.1) (k:=l.2.2) mF hb ht T (cQ (b:=1) (ao (ao (bH (bR _ _) 1) hm) (aK rfl))) e4 (ao (ao e3 hc) (aK rfl)) hs ⟨dS (gV (by decide) hk.1),dS (i9 hk.2 (by decide))⟩;rw[←e1,Ry]at vG;obtain⟨fl,ai,fL,gH,m',f1,f2,f3⟩:=ih aA (σ.set t (.aU (put (i:Int) (eD (eV l.2.1 l.2.2 d)) tl))) (cu.set i (eV l.2.1 l.2.2 d)) (m+1) _ (u9 mF hb) (j9 (iF ht)) (EG T s1) (ao (bM (fS _ 1 _)) hm) (by simpa using hc) (by rw[kZ];exact xx) g2;refine⟨fl,ai,fL,gH,m',?_,f2,by unfold oneOf;dsimp only;rw[e2,e5];rw[←(by rw[List.map_set,s2]:(cu.map vals).set i ((vals d).filter (lets l.2.1 l.2.2))=(cu.set i (eV l.2.1 l.2.2 d)).map vals)]at f3;exact f3⟩;refine(ie (aA:=ρ.set "line" (bh ln)) (ai:=aA) rfl (pre ((aR ((bZ (aX (aj g1) rfl (e0 rfl))).trans rfl)).trans ((aR ((bZ ((df (aX gl rfl ?_)).trans ((df (fj (t:=true) (dn ((jx (aj g2) hb rfl (aV (gA (i:=0) (aj g1) rfl rfl (by decide)))).trans vG)))).trans rfl))).trans rfl)).trans rfl)))).trans (f1.trans (by rw[uH]));rfl
   ·refine⟨_,aA,tl,cu,m,?_,T,.inl rfl⟩;rw[set_same ht];refine pd (aA:=ρ.set "line" (bh ln)) rfl (pre ((aR ((bZ (aX (aj g1) rfl (e0 rfl))).trans rfl)).trans (bS ((cT (dG (aX gl rfl ?_))).trans (bS (dE rfl))))));show some (decide _)=_;rw[bN (gg.mpr (bH (eH _) 2))]
  ·have t1:∀{τ:ah},cA τ (.lst ((ln.filter λl=>decide ((eZ (cu.map vals) l).filter (λv=> !lets l.2.1 l.2.2 v)= [])).map K3.pv)) (.lst [])=some true:=rz (iA _) (by decide) (by rw[bN (by simpa using hA)]);have hu:ir (ln::ls) (cu.map vals)=ir ls (cu.map vals):=aS hA;rw[hu];refine Bb (ih (ρ.set "line" (bh ln)) σ cu m tl hb ht T (cQ (b:=1) (ao hm (aK rfl))) hc xx g0) λfl ai fL gH m' f1 f2 f3=> ?_;exact⟨fl,ai,fL,gH,m',(MO (aA:=ρ.set "line" (bh ln)) rfl (zW ((cT (aX c1 rfl t1)).trans (zW rfl)))).trans f1,f2,f3⟩
theorem NJ(D:PV):lz 403 wM [D] σ=some (.loc σ.length,σ++ [.inst 403 [("domains",D),("turned",.loc (σ.length+1))],.aU []]):=by
 have a1:DA (bX ["self","domains"] [.loc σ.length,D] λz=>none) (σ++ [.inst 403 []])=some (.next,(bX ["self","domains"] [.loc σ.length,D] λz=>none),σ++ [.inst 403 [("domains",D),("turned",.loc (σ.length+1))],.aU []]):=by
  generalize aZ:(bX ["self","domains"] [.loc σ.length,D] λz=>none)=a9;have g1:a9 "self"=some (.loc σ.length):=by rw[←aZ];rfl
  have g2:a9 "domains"=some D:=by rw[←aZ];rfl
  have s1:cW (af "domains") (jU (af "self") 403 "domains") a9 (σ++ [.inst 403 []])=some (.next,a9,σ++ [.inst 403 [("domains",D)]]):=by
   refine jA (aj g2) ((bb (aj g1)).trans ?_);dsimp only;rw[fh];dsimp only;rw[iD];rfl
  have s2:cW qx (jU (af "self") 403 "turned") a9 (σ++ [.inst 403 [("domains",D)]])=some (.next,a9,σ++ [.inst 403 [("domains",D),("turned",.loc (σ.length+1))],.aU []]):=by
   have e:σ++ [.inst 403 [("domains",D)]]++ [.aU []]=σ++(PO.inst 403 [("domains",D)]:: [.aU []]):=jo ..;refine jA (v:= .loc (σ++ [PO.inst 403 [("domains",D)]]).length) rfl ((bb (aj g1)).trans ?_);dsimp only;rw[e,fh];dsimp only;rw[iD,oO];rfl
  exact(aR s1).trans ((aR s2).trans rfl)
 show((m7 ["self","domains"] DA [.loc σ.length,D] (σ++ [.inst 403 []])).bind _)=_;unfold m7;rw[a1];rfl
theorem NK{ks:List K3}(hl:cu.length=ds.length)(h:∀(i:Nat) d,ds[i]? =some d→∃e,cu[i]? =some e∧vals e=fG ks i (vals d)):cu.map vals=fb ks (ds.map vals):=by
 refine uu λi=> ?_;simp only[fb,wi,eM];by_cases q:i<ds.length
 ·refine aT (h i ds[i] (cF q)) λe h1 h2=> ?_;rw[h1,cF q,k9,k9,k9,h2]
 ·rw[p7 (ao (bM hl) (eP.mp q)),p7 (eP.mp q)];rfl
theorem NL{ks:List K3}{L:List (List Int)}{vs:List Int}(h:L[i]? =some vs)(e:fG ks i vs= []): []∈fb ks L:=by
 refine lM (i:=i) ?_;simp only[fb,wi,h,k9,e]
theorem KS(T:Tn ds cu m tl)(h:∀d∈cu,d≠ []): []∉cu.map vals:=λhm=>by
 refine aT (dR.mp hm) λd h1 h2=> ?_;exact h d h1 (xm d (T.dd d h1) h2)
theorem NM(hd:∀d∈ds,d≠ []):di σ (.tup []) (.lst (ds.map eD))=some false:=by
 refine xk (n:=1) (m:=2) (l:=ds.map eD) rfl rfl (kg.mpr λp hp=> ?_) (by decide) ?_
 ·obtain⟨x,_,rfl⟩:=dR.mp hp;exact yr x
 ·simp only[CC,dR,false_iff,not_exists,not_and];exact λd h1 h2=>hd d h1 (Ay (e:= []) h2)
theorem Xz{c:Nat}{ks:List K3}{ls:List (List K3)}(hc:σ[c]? =some (.inst 539 al))(ha:al.lookup "domains"=some (.lst (ds.map eD)))(hn:ds.length≤1000)(hd:∀d∈ds,d∈DD∧d≠ [])(hk:∀l∈ks,dQ ds.length l)(hz:ks.length+ls.length≤1000)(IT:∀ks∈ls,ks.length≤1000∧∀l∈ks,dQ ds.length l):
 Cu [.loc c,bh ks,.lst (ls.map bh)] σ=some (.bool (mG ks ls (ds.map vals)),σ):=by
 generalize aZ:((bX ["self","clause","lines"] [.loc c,bh ks,.lst (ls.map bh)] λz=>none).set "box" (.loc σ.length))=a9;have g3:a9 "lines"=some (.lst (ls.map bh)):=aZ▸rfl;have g4:a9 "box"=some (.loc σ.length):=aZ▸rfl;have hb:∀{o:PO},(σ++ [dC ds (σ.length+1),o])[σ.length]? =some (dC ds (σ.length+1)):=fh _ _ _;have ht:∀{o:PO},(σ++ [dC ds (σ.length+1),o])[σ.length+1]? =some o:=λ{o}=>by rw[mJ (bR _ 1),um];rfl
 have l8:∀{o o':PO},(σ++ [dC ds (σ.length+1),o]).set (σ.length+1) o'=σ++ [dC ds (σ.length+1),o']:=λ{o o'}=>by rw[JH _ _ (bR _ 1),um];rfl
 obtain⟨r,gH,fL,f1,f2,f3,f4,f5⟩:=Ou (σ:=σ++ [dC ds (σ.length+1),.aU []]) (b:=σ.length) (gK (cH _)) hb ht (Ot λd h=>(hd d h).1) (ks:=ks) (by lia) hn hk;rw[l8]at f1;have pre:∀{fl:Fl} {ai:aO} {aq:ah},ak Pb (ak (ft (bE (af "lines")) (a8 "line") GN) fK) a9 (σ++ [dC ds (σ.length+1),.aU []])=some (fl,ai,aq)→
  JL (bX ["self","clause","lines"] [.loc c,bh ks,.lst (ls.map bh)] λz=>none) σ=some (fl,ai,aq):=λh=>by
  refine(aR (cf ((bp (aV (jR (v:= .lst (ds.map eD)) rfl hc ha))).trans (NJ _)))).trans ?_;rw[aZ];exact h
 have cv:dh [(aJ di (bg []) pR),(bY xT)] a9 (σ++ [dC ds (σ.length+1),.aU []])=some (!r,σ++ [dC ds (σ.length+1),.aU fL]):=by
  refine(df (aX rfl (jR (v:= .lst (ds.map eD)) (aj (aZ▸rfl)) (fB hc _) ha) (NM λd h=>(hd d h).2))).trans ?_;have:bY xT a9 (σ++ [dC ds (σ.length+1),.aU []])=some (!r,σ++ [dC ds (σ.length+1),.aU fL]):=fj (dn ((jx (aj g4) hb rfl (aV (aj (aZ▸rfl)))).trans f1));cases r with
  |true=>exact(df this).trans rfl
  |false=>exact dG this
 cases r with
 |false=>
  refine gD (f5 rfl) λi d h1 h2=> ?_;have:mG ks ls (ds.map vals)=true:=aP (NL (by rw[eM,h1];rfl) h2);rw[this];exact uS rfl (pre (bS ((cT cv).trans (bS (dE rfl))))) rfl
 |true=>
  refine cM (f4 rfl λd h=>(hd d h).2) λh1 h2=> ?_;have:mG ks ls (ds.map vals)=ir ls (gH.map vals):=by
   unfold mG;rw[←(NK f3 h2),aS (KS f2 h1)]
  rw[this];refine Bb (Xy (σ:=σ++ [dC ds (σ.length+1),.aU fL]) (b:=σ.length) (gK (cH _)) ls a9 gH (0+ks.length) fL hb ht f2 (by lia) (ao (bM f3) hn) (f3▸IT) g4) λfl bL tl2 cu2 m2 e1 e2 e3=> ?_;rw[l8]at e1;have h3:∃dw,ak (ft (bE (af "lines")) (a8 "line") GN) fK a9 (σ++ [dC ds (σ.length+1),.aU fL])=some (.ret (.bool (ir ls (gH.map vals))),dw,σ++ [dC ds (σ.length+1),.aU tl2]):=by
   rcases e3 with rfl|⟨rfl,e⟩
   ·exact⟨_,bS ((gk (dq (aj g3) rfl)).trans e1)⟩
   ·rw[e];exact⟨_,(aR ((gk (dq (aj g3) rfl)).trans e1)).trans (bS (dE rfl))⟩
  refine bG h3 λdw h3=> ?_;exact uS rfl (pre ((aR ((bZ cv).trans rfl)).trans h3)) rfl
end
noncomputable def lo(d:Dm):Int:=(d.headD (0,0)).1
noncomputable def hi(d:Dm):Int:=(d.getLastD (0,0)).2
noncomputable def yt(isEq:Bool)(c:Int)(d e:Dm):Bool:=
 if lo d+lo e>c then true
 else isEq&&(decide (hi d+hi e<c)||(if lo d=hi d∧lo e=hi e then decide (c-lo d-lo e≠0)else false))
theorem acR:∀d∈DD,∀e∈DD,∀c∈ [0,1,2,3],d≠ []→e≠ []→yt false c d e=true→∀a∈vals d,∀b∈vals e,¬a+b≤c:=by decide+kernel
theorem acS:∀d∈DD,∀e∈DD,∀c∈ [0,1,2,3],d≠ []→e≠ []→yt true c d e=true→∀a∈vals d,∀b∈vals e,¬a+b=c:=by decide+kernel
section
abbrev GO:CS:=Sx
end
structure Fb(ρ:aO)(f b:Nat)(t:PV)(le gr la co:Int):Prop where
 fa:ρ "factors"=some (.loc f)
 bo:ρ "box"=some (.loc b)
 to:ρ "told"=some t
 le:ρ "least"=some (.int le)
 gr:ρ "greatest"=some (.int gr)
 la:ρ "lack"=some (.int la)
 co:ρ "common"=some (.int co)
theorem ZA:∀d∈DD,lo d≤hi d:=by decide+kernel
variable{tv:PV}
section
variable{ρ ai:aO}{σ aq τ:ah}{ds cu:List Dm}{m b t f:Nat}{tl:List (Int×PV)}
theorem Rz(x:Int):l7 σ (.int 1) (.int x)=some (.int x,σ):=by
 show(if(-1000000000<(1:Int)∧(1:Int)<1000000000)then some (PV.int (1*x),σ)else none)=_;rw[aP (by decide),Int.one_mul]
theorem NN(hn:d≠ [])(hd:∀{τ:ah},af "domain" ρ τ=some (eD d,τ)):aG Fe (aw 0) ρ σ=some (.int (lo d),σ)∧aG Fg (aw 1) ρ σ=some (.int (hi d),σ):=by
 constructor
 ·cases d with
  |nil=>exact bP rfl hn
  |cons q d=>exact dO (x:= .tup [.int q.1,.int q.2]) (y:= .int 0) (dH (l:=(q::d).map λq=>PV.tup [.int q.1,.int q.2]) (i:=0) hd rfl rfl (by decide)) rfl rfl
 ·have hl:(d.map λq=>PV.tup [.int q.1,.int q.2]).getLast?=some (.tup [.int (d.getLastD (0,0)).1,.int (d.getLastD (0,0)).2]):=by
   rw[List.getLast?_map,List.getLastD_eq_getLast?,TL hn];rfl
  exact dO (x:= .tup [.int (d.getLastD (0,0)).1,.int (d.getLastD (0,0)).2]) (y:= .int 1) (dO (x:=eD d) (y:= .int (-1)) hd rfl (Dl hl)) rfl rfl
theorem MV(hb:σ[b]? =some (dC ds t))(ht:σ[t]? =some (.aU tl))(T:Tn ds cu m tl)(hf:σ[f]? =some (.aU [(0,.int 1),(1,.int 1)]))(j0:i<2)(gv:cu[i]? =some d)(hn:d≠ []){le gr la co:Int}(F:Fb ρ f b tv le gr la co)(xZ:co=0∨co=1):
 ∃ai,GO (ρ.set "x" (.int i)) σ=some (.next,ai,σ)∧Fb ai f b tv (le+lo d) (gr+hi d) (if lo d=hi d then la-lo d else la) (if lo d=hi d then co else 1):=by
 generalize aZ:(ρ.set "x" (.int i)).set "domain" (eD d)=aA;have g1:∀{x:String},x≠"x"→x≠"domain"→aA x=ρ x:=λh1 h2=>by rw[←aZ];unfold aO.set;rw[aS h2,aS h1]
 have gx:aA "x"=some (.int i):=by rw[←aZ];rfl
 have gd:aA "domain"=some (eD d):=aZ▸rfl;have gb:(ρ.set "x" (.int i)) "box"=some (.loc b):=F.bo;have s1:bx "domain" qS (ρ.set "x" (.int i)) σ=some (.next,aA,σ):=by
  rw[←aZ];exact cf (tc hb ht T gv (ao j0 (aK rfl)) (aj gb) (aj rfl))
 have IV:∀{ρ:aO},ρ "factors"=some (.loc f)→ρ "x"=some (.int i)→aG (af "factors") (af "x") ρ σ=some (.int 1,σ):=λh1 h2=>by
  refine dO (aj h1) (aj h2) ?_;have:dp σ (.loc f)= .loc f:=by unfold dp;dsimp only;rw[hf]
  unfold fZ;rw[this];dsimp only;rw[hf];have:i=0∨i=1:=by lia
  clear j0 gv aZ gx gb s1 h2;rcases this with rfl|rfl<;>rfl
 have gf:aA "factors"=some (.loc f):=(g1 (by decide) (by decide)).trans F.fa;refine cM (NN (ρ:=aA) (σ:=σ) hn (aj gd)) λe1 e2=> ?_;generalize et:aA.set "ends" (.lst [.int (lo d),.int (hi d)])=bL;have s2:bx "ends" Qv aA σ=some (.next,bL,σ):=by
  rw[←et];refine cf (xw (bC ((da (IV gf gx) e1).trans ?_) (aV ((da (IV gf gx) e2).trans ?_))))
  ·exact Rz _
  ·exact Rz _
 have g2:∀{x:String},x≠"x"→x≠"domain"→x≠"ends"→bL x=ρ x:=λh1 h2 h3=>by rw[←et];unfold aO.set;rw[aS h3];exact g1 h1 h2
 have ge:bL "ends"=some (.lst [.int (lo d),.int (hi d)]):=et▸rfl;have gx2:bL "x"=some (.int i):=by rw[←et];exact gx
 generalize iV:(bL.set "greatest" (.int (gr+hi d))).set "least" (.int (le+lo d))=dw;have S4:=ZA d (kM T gv);have s3:iH ["least","greatest"] Qw bL σ=some (.next,dw,σ):=by
  rw[←iV];have q1:bU dj (af "least") (aN vw [(af "ends")]) bL σ=some (.int (le+lo d),σ):=by
   refine(da (aj ((g2 (by decide) (by decide) (by decide)).trans F.le)) ((bp (aV (aj ge))).trans rfl)).trans ?_;show some (PV.int (le+min (lo d) (hi d)),σ)=_;rw[show min (lo d) (hi d)=lo d by exact Int.min_eq_left S4]
  have q2:bU dj (af "greatest") (aN tB [(af "ends")]) bL σ=some (.int (gr+hi d),σ):=by
   refine(da (aj ((g2 (by decide) (by decide) (by decide)).trans F.gr)) ((bp (aV (aj ge))).trans rfl)).trans ?_;show some (PV.int (gr+max (lo d) (hi d)),σ)=_;rw[show max (lo d) (hi d)=hi d by exact wo S4]
  exact(bb (d3 (bC q1 (aV q2)))).trans rfl
 have g3:∀{x:String},x≠"x"→x≠"domain"→x≠"ends"→x≠"least"→x≠"greatest"→dw x=ρ x:=λh1 h2 h3 h4 h5=>by rw[←iV];unfold aO.set;rw[aS h4,aS h5];exact g2 h1 h2 h3
 have S5:dw "least"=some (.int (le+lo d)):=iV▸rfl;have S6:dw "greatest"=some (.int (gr+hi d)):=iV▸rfl;refine cM (NN (ρ:=dw) (σ:=σ) hn (aj (iV▸(et▸gd:bL "domain"=some (eD d))))) λe3 e4=> ?_;have IW:=(g3 (x:="factors") (by decide) (by decide) (by decide) (by decide) (by decide)).trans F.fa;have S7:=(g3 (x:="box") (by decide) (by decide) (by decide) (by decide) (by decide)).trans F.bo;have S8:=(g3 (x:="told") (by decide) (by decide) (by decide) (by decide) (by decide)).trans F.to;have S9:=(g3 (x:="lack") (by decide) (by decide) (by decide) (by decide) (by decide)).trans F.la;have Ta:=(g3 (x:="common") (by decide) (by decide) (by decide) (by decide) (by decide)).trans F.co;have pre:∀{ai:aO},Qx dw σ=some (.next,ai,σ)→
  GO (ρ.set "x" (.int i)) σ=some (.next,ai,σ):=λh=>(aR s1).trans ((aR s2).trans ((aR s3).trans h))
 by_cases q:lo d=hi d
 ·refine⟨dw.set "lack" (.int (la-lo d)),pre ((aR ((cT (aX e3 e4 ((gL _ _).trans (by rw[bN q])))).trans ((aR (cf ((da (aj S9) (gA (i:=0) (aj (iV▸ge:dw "ends"=some (.lst [.int (lo d),.int (hi d)]))) rfl rfl (by decide))).trans rfl))).trans rfl))).trans rfl),?_⟩;rw[aP q,aP q];exact⟨IW,S7,S8,S5,S6,rfl,Ta⟩
 ·refine⟨dw.set "common" (.int 1),pre ((aR ((bZ (aX e3 e4 ((gL _ _).trans (by rw[bT q])))).trans ((aR (cf ((bp (bC (aj Ta) (aV (IV IW (iV▸gx2))))).trans (Xu co xZ)))).trans rfl))).trans rfl),?_⟩;rw[aS q,aS q];exact⟨IW,S7,S8,S5,S6,S9,rfl⟩
abbrev adZ:CS:=(ak O2
 (ak (bI (cJ (fk ([Bl,(cJ (dh ([Bm,Bk].map cB)))].map cB))))
 aC))
theorem ZC{nm:String}{c le gr la co:Int}(F:Fb ρ f b (.tup [.str nm,.tup [.int 1,.int 1],.tup [.int 0,.int 1],.int c]) le gr la co)(xZ:co=0∨co=1):
 Rt adZ ρ σ (.bool (if le>c then true else decide (nm="linear_eq")&&(decide (gr<c)||(if co=0 then decide (la≠0)else false)))) σ:=by
 have t3:aG (af "told") (aw 3) ρ σ=some (.int c,σ):=dH (i:=3) (aj F.to) rfl rfl (by decide);by_cases q:le>c
 ·rw[aP q];exact dg (aX (aj F.le) t3 (by show some (decide _)=_;rw[bN q])) (bW rfl)
 ·rw[aS q];refine bq (aX (aj F.le) t3 (by show some (decide _)=_;rw[bT q])) (bW (dz ?_));have n1:cB Bl ρ σ=some (decide (nm="linear_eq"),σ):=dn (dz (qW (i:=0) F.to rfl (by decide) rfl));have n2:cB Bm ρ σ=some (decide (gr<c),σ):=dn (dz (aX (aj F.gr) t3 rfl));have n3:cB Bk ρ σ=some ((if co=0 then decide (la≠0)else false),σ):=by
   refine dn (dz ?_);rcases xZ with rfl|rfl
   ·refine aX ((gC (aX (aj F.co) rfl rfl)).trans (aj F.la)) rfl ?_;unfold cA;rw[gL,aP rfl,k9,decide_not]
   ·refine aX (x:= .int 0) ((iJ (aX (aj F.co) rfl rfl)).trans ((da (aj F.la) (aj F.co)).trans ?_)) rfl ?_
    ·show(if(1:Int)=0 then none else some (PV.int (la.fmod 1),σ))=_;rw[aS (by decide),Int.fmod_one]
    ·unfold cA;rw[gL];rfl
  have n4:cB (cJ (dh ([Bm,Bk].map cB))) ρ σ=some ((decide (gr<c)||(if co=0 then decide (la≠0)else false)),σ):=by
   refine dn (dz ?_);cases h:decide (gr<c)with
   |true=>rw[h]at n2;exact dG n2
   |false=>
    rw[h]at n2;refine(df n2).trans ?_;cases h2:(if co=0 then decide (la≠0)else false)with
    |true=>rw[h2]at n3;exact dG n3
    |false=>rw[h2]at n3;exact(df n3).trans rfl
  cases h:decide (nm="linear_eq")with
  |false=>rw[h]at n1;exact fY n1
  |true=>
   rw[h]at n1;refine(eJ n1).trans ?_;cases h2:(decide (gr<c)||(if co=0 then decide (la≠0)else false))with
   |true=>rw[h2]at n4;exact(eJ n4).trans rfl
   |false=>rw[h2]at n4;exact fY n4
end
section
variable{ρ ai:aO}{σ aq τ:ah}{ds cu:List Dm}{m b t f:Nat}{tl:List (Int×PV)}
theorem MW{f:Nat}{l:List (Int×PV)}{i x:Int}(hf:σ[f]? =some (.aU l))(h1:ρ "factors"=some (.loc f))(h2:ρ "x"=some (.int i))(h3:ρ "factor"=some (.int x))(hl:l.lookup i=none)(hz:l.length≤1000):
 ak Bj aC ρ σ=some (.next,ρ,σ.set f (.aU (put i (.int x) l))):=by
 have ty:nr "dict" σ (.loc f)=true:=by unfold nr;dsimp only;rw[hf];rfl
 have e1:jF (af "factors") "dict" pP [(af "x"),(aw 0)] ρ σ=some (.int 0,σ):=by
  refine(vF (aj h1) ty (bC (aj h2) (aV rfl))).trans ?_;refine(Nh hf).trans ?_;rw[hl];rfl
 exact(aR (jA ((da e1 (aj h3)).trans (bV (λz=>some (PV.int z,σ)) (zf x))) (EB (aj h1) (aj h2) hf (ao hz (aK rfl))))).trans rfl
theorem MX{s:Nat}{nm:String}{c:Int}(hb:σ[b]? =some (dC ds t))(ht:σ[t]? =some (.aU tl))(T:Tn ds cu m tl){e:Dm}(hd:cu[0]? =some d)(he:cu[1]? =some e)(nd:d≠ [])(ne:e≠ []):
 Co [.loc s,.tup [.str nm,.tup [.int 1,.int 1],.tup [.int 0,.int 1],.int c],.loc b] σ=some (.bool (yt (decide (nm="linear_eq")) c d e),σ):=by
 generalize B2:(PV.tup [.str nm,.tup [.int 1,.int 1],.tup [.int 0,.int 1],.int c])=tv;generalize aZ:((((((bX ["self","told","box"] [.loc s,tv,.loc b] λz=>none).set "factors" (.loc σ.length)).set "least" (.int 0)).set "greatest" (.int 0)).set "lack" (.int c)).set "common" (.int 0))=a9;have F0:Fb a9 σ.length b tv 0 0 c 0:=by rw[←aZ];exact⟨rfl,rfl,rfl,rfl,rfl,rfl,rfl⟩
 have s1:cW O1 O0 (bX ["self","told","box"] [.loc s,tv,.loc b] λz=>none) σ=some (.next,a9,σ++ [.aU []]):=by
  rw[←aZ,←B2];rfl
 have st:∀(l:List (Int×PV)) (l':List (Int×PV)),(σ++ [PO.aU l]++ [PO.c7]).set σ.length (.aU l')=σ++ [PO.aU l']++ [.c7]:=λl l'=>by
  rw[jo,jo];exact iD _ _ _ _
 have gt:∀(l:List (Int×PV)),(σ++ [PO.aU l]++ [.c7])[σ.length]? =some (.aU l):=λl=>by rw[jo];exact fh _ _ _
 have b1:ak Bj aC ((a9.set "factor" (.int 1)).set "x" (.int 0)) (σ++ [.aU []]++ [.c7])=some (.next,(a9.set "factor" (.int 1)).set "x" (.int 0),σ++ [.aU [(0,.int 1)]]++ [.c7]):=by
  have:=MW (ρ:=(a9.set "factor" (.int 1)).set "x" (.int 0)) (i:=0) (x:=1) (gt []) F0.fa rfl rfl rfl (by decide);rw[st]at this;exact this
 generalize fv:(a9.set "factor" (.int 1)).set "x" (.int 0)=aA at b1;have F1:Fb aA σ.length b tv 0 0 c 0:=by rw[←fv];exact⟨F0.fa,F0.bo,F0.to,F0.le,F0.gr,F0.la,F0.co⟩
 have b2:ak Bj aC ((aA.set "factor" (.int 1)).set "x" (.int 1)) (σ++ [.aU [(0,.int 1)]]++ [.c7])=some (.next,(aA.set "factor" (.int 1)).set "x" (.int 1),σ++ [.aU [(0,.int 1),(1,.int 1)]]++ [.c7]):=by
  have:=MW (ρ:=(aA.set "factor" (.int 1)).set "x" (.int 1)) (i:=1) (x:=1) (gt [(0,.int 1)]) F1.fa rfl rfl rfl (by decide);rw[st]at this;exact this
 generalize et:(aA.set "factor" (.int 1)).set "x" (.int 1)=bL at b2;have F2:Fb bL σ.length b tv 0 0 c 0:=by rw[←et];exact⟨F1.fa,F1.bo,F1.to,F1.le,F1.gr,F1.la,F1.co⟩
 have old:nh (σ++ [PO.aU []]) (σ++ [PO.aU [(0,.int 1),(1,.int 1)]]++ [.c7]):=by
  refine⟨by simp,λi hi=> ?_⟩;by_cases q:i=σ.length
  ·clear hi;subst q;exact .inr ⟨_,gt _,rfl⟩
  ·have gv:i<σ.length:=by simp at hi;lia
   left;rw[jo,jn gv,jn gv]
 have ez:eA [aG (af "told") (aw 1),aG (af "told") (aw 2)] a9 (σ++ [.aU []])=some ([.tup [.int 1,.int 1],.tup [.int 0,.int 1]],σ++ [.aU []]):=by
  have h:=F0.to;rw[←B2]at h;exact bC (dH (i:=1) (aj h) rfl rfl (by decide)) (aV (dH (i:=2) (aj h) rfl rfl (by decide)))
 have s2:=NF (σ:=σ++ [.aU []]) (bF:=gP [(a8 "factor"),(a8 "x")]) ez (aA:=aA) (fv▸rfl) b1 (by simp) (dw:=bL) (et▸rfl) b2 (by simp) old;rw[(by simp:(σ++ [PO.aU []]).length=σ.length+1)]at s2;have F3:Fb (bL.cut (σ.length+1)) σ.length b tv 0 0 c 0:=⟨tu F2.fa (bN (cH _)),tu F2.bo (bN (ao (iF hb) (bR _ 1))),tu F2.to (B2▸rfl),tu F2.le rfl,tu F2.gr rfl,tu F2.la rfl,tu F2.co rfl⟩;generalize bL.cut (σ.length+1)=dw at s2 F3;generalize B4:σ++ [PO.aU [(0,.int 1),(1,.int 1)]]=τ at s2;have gf:τ[σ.length]? =some (.aU [(0,.int 1),(1,.int 1)]):=by rw[←B4];exact fh _ _ _
 have gb:τ[b]? =some (dC ds t):=by rw[←B4];exact fB hb _
 have Tb:τ[t]? =some (.aU tl):=by rw[←B4];exact fB ht _
 have hs:aN n9 [af "factors"] dw τ=some (.lst [.int 0,.int 1],τ):=by
  refine(bp (aV (aj F3.fa))).trans ?_;unfold n9;dsimp only;rw[gf];rfl
 refine aT (MV gb Tb T gf (i:=0) (by decide) hd nd F3 (.inl rfl)) λjf h4 F4=> ?_;refine aT (MV gb Tb T gf (i:=1) (by decide) he ne F4 (by split<;>simp)) λkr h5 F5=> ?_;rw[←B2]at F5;have s4:=ZC (σ:=τ) F5 (by split<;>(try split)<;>simp);have fin:(if 0+lo d+lo e>c then true else decide (nm="linear_eq")&&(decide (0+hi d+hi e<c)||(if(if lo e=hi e then(if lo d=hi d then(0:Int)else 1)else 1)=0 then decide ((if lo e=hi e then(if lo d=hi d then c-lo d else c)-lo e else(if lo d=hi d then c-lo d else c))≠0)else false)))=yt (decide (nm="linear_eq")) c d e:=by
  unfold yt;rw[zf,zf];by_cases q1:lo d=hi d
  ·by_cases q2:lo e=hi e
   ·simp only[aP q1,aP q2,aP (zN q1 q2),if_true]
   ·simp only[aP q1,aS q2,aS (λh:lo d=hi d∧lo e=hi e=>q2 h.2),aS (show¬(1:Int)=0 by decide)]
  ·by_cases q2:lo e=hi e
   ·simp only[aS q1,aP q2,aS (λh:lo d=hi d∧lo e=hi e=>q1 h.1),aS (show¬(1:Int)=0 by decide)]
   ·simp only[aS q2,aS (λh:lo d=hi d∧lo e=hi e=>q1 h.1),aS (show¬(1:Int)=0 by decide)]
 rw[fin]at s4;refine s9 (τ:= [.aU [(0,.int 1),(1,.int 1)]]) rfl ?_ rfl;rw[B4];exact cg s1 (cg s2 (cg ((gk (dq hs rfl)).trans ((ie (aA:=dw.set "x" (.int 0)) rfl h4).trans ((ie (aA:=jf.set "x" (.int 1)) rfl h5).trans Ak)):ft (bE (aN n9 [af "factors"])) (a8 "x") GO dw τ=some (.next,kr,τ)) s4))
end
section
abbrev GP:CS:=(ak (bx "given" Fi)
 (ak (bt (aJ ej (iG false) (runC true [".0","x","v"] (oC (aG (af "told") (aw 1)) (af "row")) (gP [(a8 "x"),(a8 "v")]) (λz σ=>some (true,σ)) (λk=>bK (cJ (fk ([AM,Bn].map cB))) k) bQ)) kN aC)
 aC))
end
section
variable{ρ ai:aO}{σ aq τ:ah}{ds cu:List Dm}{m b t f:Nat}{tl:List (Int×PV)}
theorem ZD{e:Dm}{p q:Int}{l:List PV}(hb:σ[b]? =some (dC ds t))(ht:σ[t]? =some (.aU tl))(T:Tn ds cu m tl)(hd:cu[0]? =some d)(he:cu[1]? =some e)
 (h1:ρ "told"=some (.tup (.str "table":: .tup [.int 0,.int 1]::l))) (h2:ρ "box"=some (.loc b)) (h3:ρ "row"=some (.tup [.int p,.int q])):
 ∃ai o,(∀x,x≠"given"→ai x=ρ x)∧GP ρ σ=some (if(gE d p&&gE e q)=true then .ret (.bool true)else .next,ai,σ++ [o]):=by
 have s1:bx "given" Fi ρ σ=some (.next,ρ.set "given" (.loc σ.length),σ++ [.aU [(0,.int p),(1,.int q)]]):=
  cf ((bb (bC (dH (i:=1) (aj h1) rfl rfl (by decide)) (aV (aj h3)))).trans rfl)
 generalize aZ:ρ.set "given" (.loc σ.length)=a9 at s1;have g1:a9 "told"=some (.tup (.str "table":: .tup [.int 0,.int 1]::l)):=by rw[←aZ];exact h1
 refine⟨a9,.aU [(0,.int p),(1,.int q)],λx hx=>by rw[←aZ];unfold aO.set;rw[aS hx],?_⟩;have ev:∀(aA:aO) (i:Nat) (y:Dm) (v:Int) (τ:ah),i<2→cu[i]? =some y→(i=0→v=p)→(i=1→v=q)→aA "box"=some (.loc b)→aA "given"=some (.loc σ.length)→aA "x"=some (.int i)→aA "v"=some (.int v)→
  (cJ (fk ([AM,Bn].map cB))) aA (σ++ [.aU [(0,.int p),(1,.int q)]]++τ)=some (.bool (gE y v),σ++ [.aU [(0,.int p),(1,.int q)]]++τ):=λaA i y v τ hi hy hp hq k1 k2 k3 k4=>by
  have gd:(σ++ [PO.aU [(0,.int p),(1,.int q)]]++τ)[σ.length]? =some (.aU [(0,.int p),(1,.int q)]):=by rw[jo];exact fh _ _ _
  have Tc:(σ++ [PO.aU [(0,.int p),(1,.int q)]]++τ)[b]? =some (dC ds t):=fB (fB hb _) _;have yp:(σ++ [PO.aU [(0,.int p),(1,.int q)]]++τ)[t]? =some (.aU tl):=fB (fB ht _) _;generalize σ++ [PO.aU [(0,.int p),(1,.int q)]]++τ=bj at gd Tc yp;have a1:cB AM aA bj=some (gE y v,bj):=dn ((bp (bC (tc Tc yp T hy (ao hi (aK rfl)) (aj k1) (aj k3)) (aV (aj k4)))).trans (PM y v));have a2:cB Bn aA bj=some (true,bj):=by
   refine dn (dz (aX (x:= .int v) (dO (aj k2) (aj k3) ?_) (aj k4) ((gL _ _).trans (by rw[bN rfl]))));have:dp bj (.loc σ.length)= .loc σ.length:=by unfold dp;dsimp only;rw[gd]
   unfold fZ;rw[this];dsimp only;rw[gd];have:i=0∨i=1:=by lia
   clear hi hy k3;rcases this with rfl|rfl
   ·rw[hp rfl];rfl
   ·rw[hq rfl];rfl
  refine dz ?_;cases h:gE y v with
  |true=>rw[h]at a1;exact(eJ a1).trans ((eJ a2).trans rfl)
  |false=>rw[h]at a1;exact fY a1
 generalize i4:((a9.drop [".0","x","v"]).set "x" (.int 0)).set "v" (.int p)=r1;have k1:r1 "box"=some (.loc b)∧r1 "given"=some (.loc σ.length)∧r1 "x"=some (.int ((0:Nat):Int))∧r1 "v"=some (.int p):=by rw[←i4];exact⟨(aZ▸h2:a9 "box"=some (.loc b)),(aZ▸rfl:a9 "given"=some (.loc σ.length)),rfl,rfl⟩
 generalize i5:(r1.set "x" (.int 1)).set "v" (.int q)=r2;have k2:r2 "box"=some (.loc b)∧r2 "given"=some (.loc σ.length)∧r2 "x"=some (.int ((1:Nat):Int))∧r2 "v"=some (.int q):=by rw[←i5];exact⟨k1.1,k1.2.1,rfl,rfl⟩
 have cz:=Zu (tg:= [".0","x","v"]) (c1:=aG (af "told") (aw 1)) (c2:=af "row") (bF:=gP [(a8 "x"),(a8 "v")]) (ρ:=a9)
  (bC (dH (i:=1) (aj g1) rfl rfl (by decide)) (aV (aj (aZ▸h3:a9 "row"=some (.tup [.int p,.int q]))))) (λz=>i4▸rfl) (λz=>i5▸rfl) (λτ=>ev r1 0 d p τ (by decide) hd (λz=>rfl) (λh=>by cases h) k1.1 k1.2.1 k1.2.2.1 k1.2.2.2) (λτ=>ev r2 1 e q τ (by decide) he (λh=>by cases h) (λz=>rfl) k2.1 k2.2.1 k2.2.2.1 k2.2.2.2) rfl rfl
 have nin:∀p q:Bool,∀τ:ah,ej τ (.bool false) (.lst [.bool p,.bool q])=some (p&&q):=λp q τ=>by cases p<;>cases q<;>rfl
 have iW:=aX (f:=ej) (a:=iG false) (x:= .bool false) rfl cz (nin _ _ _);refine(aR s1).trans ?_;cases h1:gE d p&&gE e q with
 |false=>rw[h1]at iW;exact(aR ((bZ iW).trans rfl)).trans rfl
 |true=>rw[h1]at iW;exact bS ((cT iW).trans (bS (dE rfl)))
theorem Md{d e:Dm}{l:List PV}:∀(rows:List (Int×Int)) (ρ:aO) (σ:ah),σ[b]? =some (dC ds t)→σ[t]? =some (.aU tl)→Tn ds cu m tl→cu[0]? =some d→cu[1]? =some e→ρ "told"=some (.tup (.str "table":: .tup [.int 0,.int 1]::l))→ρ "box"=some (.loc b)→
 ∃ai τ,eU false 0 (a8 "row") GP (rows.map λq=> .tup [.int q.1,.int q.2]) ρ σ=some (if rows.any (λq=>gE d q.1&&gE e q.2)=true then .ret (.bool true)else .next,ai,σ++τ)
 | [],ρ,σ,_,_,_,_,_,_,_=>⟨ρ,[],by rw[gy];rfl⟩
 |q::rows,ρ,σ,hb,ht,T,hd,he,h1,h2=>by
  refine gD (ZD (ρ:=ρ.set "row" (.tup [.int q.1,.int q.2])) (l:=l) hb ht T hd he h1 h2 rfl) λaA o e1 e2=> ?_;rw[uD];cases h:gE d q.1&&gE e q.2 with
  |true=>
   rw[h]at e2;exact⟨aA,[o],pd (aA:=ρ.set "row" (.tup [.int q.1,.int q.2])) rfl e2⟩
  |false=>
   rw[h]at e2;refine gM (Md (d:=d) (e:=e) (l:=l) rows aA (σ++ [o]) (fB hb _) (fB ht _) T hd he ((e1 _ (by decide)).trans h1) ((e1 _ (by decide)).trans h2)) λai τ e3=> ?_;exact⟨ai,o::τ,(ie (aA:=ρ.set "row" (.tup [.int q.1,.int q.2])) rfl e2).trans (e3.trans (by rw[jo];rfl))⟩
theorem XA{s:Nat}{c:Int}{e:Dm}(hb:σ[b]? =some (dC ds t))(ht:σ[t]? =some (.aU tl))(T:Tn ds cu m tl)(hd:cu[0]? =some d)(he:cu[1]? =some e):Cw [.loc s,eT (.tab c),.loc b] σ=some (.bool ((kO c).any λq=>gE d q.1&&gE e q.2),σ):=by
 refine gM (Md (d:=d) (e:=e) (l:= [eD (kO c)]) (kO c) (bX ["self","told","box"] [.loc s,eT (.tab c),.loc b] λz=>none) σ hb ht T hd he rfl rfl) λai τ h1=> ?_;have h2:ft (bE (aG (af "told") (aw 2))) (a8 "row") GP (bX ["self","told","box"] [.loc s,eT (.tab c),.loc b] λz=>none) σ=_:=(gk (dq (v:=eD (kO c)) rfl rfl)).trans h1;refine s9 (τ:=τ) rfl ?_ rfl;cases h:(kO c).any λq=>gE d q.1&&gE e q.2 with
 |true=>rw[h]at h2;exact⟨_,bS h2⟩
 |false=>rw[h]at h2;exact cg h2 (bW rfl)
end
noncomputable abbrev MI:=List (Int×PV)
noncomputable def IX(h:Int):Option PV→Bool
 |some (.int x)=>decide (x=h)
 |_=>false
noncomputable def Bx(ow:MI)(h:Int):List Int→MI→List Int→Option (MI×List Int×Option Int)
 | [],ca,q=>some (ca,q,none)
 |v::vs,ca,q=>if(ca.lookup v).isSome=true then Bx ow h vs ca q else match ow.lookup v with
  |none=>some (put v (.int h) ca,q,some v)
  |some (.int w)=>Bx ow h vs (put v (.int h) ca) (q++ [w])
  |some _=>none
def H0(ow:MI)(b9:List (List Int))(h:Int)(ca:MI)(q:List Int):Option (MI×List Int×Option Int):=if 0≤h∧h≤1000 then(b9[h.toNat]?).bind λvs=>Bx ow h vs ca q else none
noncomputable def IY(ow:MI)(b9:List (List Int)):Nat→MI→List Int→Option (MI×Option Int)
 |0,_,_=>none
 |_+1,ca,[]=>some (ca,none)
 |n+1,ca,h::l=>if l.length≤1 then(H0 ow b9 h ca l).bind λr=>r.2.2.elim (IY ow b9 n r.1 r.2.1) λv=>some (r.1,some v)else none
noncomputable def mv(ca:MI)(place:Int):Nat→MI→Int→Option MI
 |0,_,_=>none
 |n+1,ow,f=>((ca.lookup f).bind xP).bind λh=>if h=place then some (put f (.int h) ow)else((oD (ca.map (·.1))).filter λv=>IX h (ow.lookup v)).head?.bind λg=>mv ca place n (put f (.int h) ow) g
noncomputable def gT(b9:List (List Int)):List Int→MI→Option Bool
 | [],_=>some true
 |p::ps,ow=>(IY ow b9 5 [] [p]).bind λr=>r.2.elim (some false) λf=>(mv r.1 p 5 ow f).bind (gT b9 ps)
theorem acT:∀d∈DD,∀e∈DD,d≠ []→e≠ []→(gT [vals d,vals e] [0,1] []=some true∨(gT [vals d,vals e] [0,1] []=some false∧∀a∈vals d,∀b∈vals e,a=b)):=by decide+kernel
def gU(n:Nat)(l:MI):Prop:=l.length≤n∧∀q∈l,∃x,q.2= .int x
theorem gU.put{n:Nat}{l:MI}(h:gU n l)(k x:Int):gU (n+1) (put k (.int x) l):=⟨ao MR (yR h.1),λq hq=>by
 rcases MS hq with e|e
 ·exact⟨x,e⟩
 ·exact h.2 q e⟩
theorem gU.mono{n:Nat}{l:MI}(h:gU n l)(hm:n≤m):gU m l:=⟨ao h.1 hm,h.2⟩
theorem gU.lt{n:Nat}{l:MI}(h:gU n l):PO.lt k (.aU l)=true:=by
 exact n7 λq hq=>by obtain⟨x,e⟩:=h.2 q hq;rw[e];rfl
theorem lookup_mem{l:MI}{k:Int}{v:PV}(e:l.lookup k=some v):∃q∈l,q.2=v:=by
 induction l with
 |nil=>exact aQ e
 |cons q l ih=>
  rw[ke]at e;cases hq:k==q.1 with
  |true=>rw[hq]at e;exact⟨q,.head _,c8 e⟩
  |false=>rw[hq]at e;exact aT (ih e) λr h1 h2=>⟨r,.tail _ h1,h2⟩
theorem gU.look{n:Nat}{l:MI}(h:gU n l){k:Int}{v:PV}(e:l.lookup k=some v):∃x,v= .int x:=by
 exact aT (lookup_mem e) λq h1 h2=>bG (h.2 q h1) λx h3=>⟨x,h2.symm.trans h3⟩
section
abbrev PS:CS:=Qz
abbrev ad0:CS:=Qy
end
section
variable{ρ ai:aO}{σ aq τ:ah}{o c:Nat}{ow ca:MI}
theorem En{l:MI}(h:σ[k]? =some (.aU l)):dp σ (.loc k)= .loc k:=by unfold dp;dsimp only;rw[h]
theorem Oz{x:String}{l:MI}{i:Int}{v:PV}{e:CE}(h:σ[k]? =some (.aU l))(hx:ρ x=some (.loc k))(he:e ρ σ=some (.int i,σ))(hv:l.lookup i=some v):aG (af x) e ρ σ=some (v,σ):=by
 refine dO (aj hx) he ?_;unfold fZ;rw[En h];dsimp only;rw[h];exact hv
theorem Ao{x:String}{l:MI}{i:Int}{e:CE}{b:Bool}(h:σ[k]? =some (.aU l))(hx:ρ x=some (.loc k))(he:e ρ σ=some (.int i,σ))(hb:(!(l.lookup i).isSome)=b):aJ ej e (af x) ρ σ=some (b,σ):=by
 refine aX he (aj hx) ?_;unfold ej di;rw[En h];dsimp only;rw[h];rw[k9,hb]
theorem OA{x:String}{l:MI}{i:Int}{v:PV}{e f:CE}(h:σ[k]? =some (.aU l))(hx:ρ x=some (.loc k))(he:e ρ σ=some (.int i,σ))(hf:f ρ σ=some (v,σ))(hz:l.length≤1000):cW f (gm (af x) e) ρ σ=some (.next,ρ,σ.set k (.aU (put i v l))):=by
 exact jA hf (EB (aj hx) he h (ao hz (aK rfl)))
theorem acU(mH:o≠c)(hz:ow.length≤100){h:Int}:∀(vs:List Int) (ρ:aO) (σ:ah) (ca:MI) (q:List Int) (n:Nat) (r:MI×List Int×Option Int),σ[o]? =some (.aU ow)→σ[c]? =some (.aU ca)→gU n ca→n+vs.length≤100→q.length+vs.length≤100→
 ρ "owner"=some (.loc o)→ρ "came"=some (.loc c)→ρ "here"=some (.int h)→ρ "queue"=some (.lst (q.map .int))→ρ "free"=some .none→Bx ow h vs ca q=some r→
 ∃ai,eU false 0 (a8 "v") PS (vs.map .int) ρ σ=some (.next,ai,σ.set c (.aU r.1))∧gU (n+vs.length) r.1∧ai "queue"=some (.lst (r.2.1.map .int))∧r.2.1.length≤q.length+vs.length∧ai "free"=some (match r.2.2 with|none=> .none|some v=> .int v)∧∀x,x≠"v"→x≠"queue"→x≠"free"→ai x=ρ x:=by
 intro x0
 induction x0 with
 |nil=>
  intro ρ σ ca q n r ho hc M h1 h2 g1 g2 g3 g4 g5 e;(refine cj e λaL=> ?_;clear e;subst aL);exact⟨ρ,by rw[set_same hc];rfl,M,g4,cH _,g5,λz z z z=>rfl⟩
 |cons v vs ih=>
  intro ρ σ ca q n r ho hc M h1 h2 g1 g2 g3 g4 g5 e;have k1:(ρ.set "v" (.int v)) "owner"=some (.loc o):=g1;have k2:(ρ.set "v" (.int v)) "came"=some (.loc c):=g2;have k3:(ρ.set "v" (.int v)) "here"=some (.int h):=g3;have k4:(ρ.set "v" (.int v)) "queue"=some (.lst (q.map .int)):=g4;have k5:(ρ.set "v" (.int v)) "free"=some .none:=g5;have kv:∀{σ:ah},af "v" (ρ.set "v" (.int v)) σ=some (.int v,σ):=rfl;by_cases dJ:(ca.lookup v).isSome=true
  ·have e:=(aP dJ).symm.trans e;refine xD (ih (ρ.set "v" (.int v)) σ ca q n r ho hc M (cQ (b:=1) (ao h1 (aK rfl))) (cQ (b:=1) (ao h2 (aK rfl))) k1 k2 k3 k4 k5 e) λai f1 f2 f3 f4 f5 f6=> ?_;refine⟨ai,(ie (aA:=ρ.set "v" (.int v)) rfl ((aR ((bZ (Ao hc k2 kv (by rw[dJ];rfl))).trans rfl)).trans rfl)).trans f1,f2.mono (bR _ 1),f3,ao f4 (bR _ 1),f5,λx h1 h2 h3=>(f6 x h1 h2 h3).trans (by unfold aO.set;rw[aS h1])⟩
  ·have e:=(aS dJ).symm.trans e;have t1:aJ ej (af "v") (af "came") (ρ.set "v" (.int v)) σ=some (true,σ):=Ao hc k2 kv (by rw[Kd]at dJ;rw[dJ];rfl);have s1:=OA (f:=af "here") hc k2 (kv (σ:=σ)) (aj k3) (by have:=M.1;exact cQ (b:=1) (ao (ao (ao (bH this 1) (bH (bR _ _) 1)) h1) (aK rfl)));have i3:(σ.set c (.aU (put v (.int h) ca)))[o]? =some (.aU ow):=u9 mH ho;cases hl:ow.lookup v with
   |none=>
    rw[hl]at e;(refine cj e λaL=> ?_;clear e;subst aL);refine⟨(ρ.set "v" (.int v)).set "free" (.int v),abb (aA:=ρ.set "v" (.int v)) rfl (Ej ((cT t1).trans ((aR s1).trans (Ej ((cT (Ao i3 k1 kv (hl▸rfl))).trans ((aR (cf kv)).trans (Ej rfl))))))),(M.put v h).mono (bH (bR _ _) 1),k4,bR _ _,rfl,λx h1 h2 h3=>by unfold aO.set;rw[aS h3,aS h1]⟩
   |some p=>
    rw[hl]at e;cases p with
    |int w=>
     have kq:bx "queue" O3 (ρ.set "v" (.int v)) (σ.set c (.aU (put v (.int h) ca)))=some (.next,(ρ.set "v" (.int v)).set "queue" (.lst ((q++ [w]).map .int)),σ.set c (.aU (put v (.int h) ca))):=by
      refine cf ((da (aj k4) (xw (aV (Oz i3 k1 kv hl)))).trans ?_);show(if(q.map PV.int).length+ [PV.int w].length≤10000 then _ else _)=_;rw[aP (by simp only[bB,jb,nR];lia),mO];rfl
     obtain⟨ai,f1,f2,f3,f4,f5,f6⟩:=ih ((ρ.set "v" (.int v)).set "queue" (.lst ((q++ [w]).map .int))) _ _ (q++ [w]) (n+1) r i3 (j9 (iF hc)) (M.put v h) (ao (bM (fS _ 1 _)) h1) (by simp;exact ao (bM (fS _ 1 _)) h2) k1 k2 k3 rfl k5 e;refine⟨ai,(ie (aA:=ρ.set "v" (.int v)) rfl ((aR ((cT t1).trans ((aR s1).trans ((aR ((bZ (Ao i3 k1 kv (hl▸rfl))).trans rfl)).trans ((aR kq).trans rfl))))).trans rfl)).trans (f1.trans (by rw[uH])),f2.mono (bM (fS _ 1 _)),f3,by simp at f4;exact ao f4 (bM (fS _ 1 _)),f5,λx h1 h2 h3=>(f6 x h1 h2 h3).trans (by unfold aO.set;rw[aS h2,aS h1])⟩
    |_=>exact aQ e
end
section
abbrev GQ:CB:=fk [(aJ cA (af "queue") (dc [])),Fj]
abbrev GR:CS:=(ak (iH ["here","queue"] Hz)
 (ak (ft (bE (aG (af "lots") (af "here"))) (a8 "v") PS)
 aC))
abbrev PT:CS:=(ak (iH ["came","queue","free"] Fo)
 (ak (gZ GQ GR 1000)
 QA))
end
noncomputable def H2:Option Int→PV
 |none=> .none
 |some v=> .int v
section
variable{ρ ai:aO}{σ aq τ:ah}{o c:Nat}{ow ca:MI}{b9:List (List Int)}
theorem acV{e:CE}{p:PV}(h:e ρ σ=some (.lst [p,q],σ)):jw e (aw 1) cU cU ρ σ=some (.lst [q],σ):=by
 refine(bb h).trans ?_;show(if [p,q].length≤100000 then some (PV.lst (rD [p,q] (some 1) none none),σ)else none)=_;have:rD [p,q] (some 1) none none=ni [p,q] (qg (mT (some 1) none none 2).1 (mT (some 1) none none 2).2.1 (mT (some 1) none none 2).2.2):=rfl;rw[this];rfl
theorem afk(mH:o≠c)(hz:ow.length≤100)(hl:∀vs∈b9,vs.length≤3){h:Int}{av:List Int}{r:MI×List Int×Option Int}(hr:av.length≤50)(hm:m≤90)(ho:σ[o]? =some (.aU ow))(hc:σ[c]? =some (.aU ca))(M:gU m ca)
 (g1:ρ "owner"=some (.loc o)) (g2:ρ "came"=some (.loc c)) (g4:ρ "queue"=some (.lst (.int h::av.map .int))) (g5:ρ "free"=some .none) (g6:ρ "lots"=some (.lst (b9.map bf)))
 (hs:jw (af "queue") (aw 1) cU cU ρ σ=some (.lst (av.map .int),σ)) (e:H0 ow b9 h ca av=some r):
 ∃ai,GR ρ σ=some (.next,ai,σ.set c (.aU r.1))∧gU (m+3) r.1∧ai "queue"=some (.lst (r.2.1.map .int))∧ai "free"=some (H2 r.2.2)∧∀x,x≠"v"→x≠"queue"→x≠"free"→x≠"here"→ai x=ρ x:=by
 unfold H0 at e;split at e
 ·rename_i hh;refine c4 e λvs hv e=> ?_;generalize aZ:(ρ.set "queue" (.lst (av.map .int))).set "here" (.int h)=aA;have s1:iH ["here","queue"] Hz ρ σ=some (.next,aA,σ):=by
   rw[←aZ];exact(bb (d3 (bC (gA (i:=0) (aj g4) rfl rfl (by decide)) (aV hs)))).trans rfl
  have k3:aA "here"=some (.int h):=by rw[←aZ];rfl
  have h3:=hl vs (lM hv);refine xD (acU mH hz vs aA σ ca av m r ho hc M (by lia) (by lia) (aZ▸g1) (aZ▸g2) k3 (aZ▸rfl) (aZ▸g5) e) λai f1 f2 f3 f4 f5 f6=> ?_;have RB:((h.toNat:Nat):Int)=h:=JR hh.1;refine⟨ai,(aR s1).trans ((aR ((gk (dq (gA (i:=h.toNat) (v:=bf vs) (aj (aZ▸g6:aA "lots"=some (.lst (b9.map bf)))) (by rw[RB];exact aj k3) (by rw[eM,hv];rfl) (gg.mp (i9 (oY (Int.le_of_eq RB) hh.2) (by decide)))) rfl)).trans f1)).trans rfl),f2.mono (by lia),f3,?_,λx h1 h2 h3 h4=>(f6 x h1 h2 h3).trans (by rw[←aZ];unfold aO.set;rw[aS h4,aS h2])⟩;rw[f5];cases r.2.2<;>rfl
 ·exact aQ e
theorem EI{q:List Int}{fo:Option Int}(g4:ρ "queue"=some (.lst (q.map .int)))(g5:ρ "free"=some (H2 fo)):GQ ρ σ=some (!q.isEmpty&&fo.isNone,σ):=by
 have t1:aJ cA (af "queue") (dc []) ρ σ=some (!q.isEmpty,σ):=aX (aj g4) rfl (rz (zY _) (by decide) (by clear g4;cases q<;>simp));have t2:aJ Ab (af "free") cU ρ σ=some (fo.isNone,σ):=aX (aj g5) rfl (by clear g5;cases fo<;>rfl);cases h: !q.isEmpty with
 |false=>rw[h]at t1;exact fY t1
 |true=>
  rw[h]at t1;refine(eJ t1).trans ?_;cases h2:fo.isNone with
  |false=>rw[h2]at t2;exact fY t2
  |true=>rw[h2]at t2;exact(eJ t2).trans rfl
theorem ad1(mH:o≠c)(hz:ow.length≤100)(hl:∀vs∈b9,vs.length≤3)(n:Nat):∀(N:Nat) (ρ:aO) (σ:ah) (ca:MI) (q:List Int) (m:Nat) (r:MI×Option Int),m+3*n≤60→σ[o]? =some (.aU ow)→σ[c]? =some (.aU ca)→gU m ca→
 ρ "owner"=some (.loc o)→ρ "came"=some (.loc c)→ρ "queue"=some (.lst (q.map .int))→ρ "free"=some .none→ρ "lots"=some (.lst (b9.map bf))→IY ow b9 n ca q=some r→
 ∃ai,gZ GQ GR (N+n+1) ρ σ=some (.next,ai,σ.set c (.aU r.1))∧gU 60 r.1∧ai "free"=some (H2 r.2)∧∀x,x≠"v"→x≠"queue"→x≠"free"→x≠"here"→ai x=ρ x:=by
 induction n with
 |zero=>exact λz z z z z z z z z z z z z z z z e=>aQ e
 |succ n ih=>
  intro N ρ σ ca q m r hm ho hc M g1 g2 g4 g5 g6 e;cases q with
  |nil=>
   (refine cj e λaL=> ?_;clear e;subst aL);exact⟨ρ,(sQ (EI (q:= []) (fo:=none) g4 g5)).trans (by rw[set_same hc]),M.mono (ao (bR _ _) hm),g5,λz z z z z=>rfl⟩
  |cons h l=>
   by_cases hq:l.length≤1
   ·have hs:jw (af "queue") (aw 1) cU cU ρ σ=some (.lst (l.map .int),σ):=by
     cases l with
     |nil=>exact(bb (aj g4)).trans rfl
     |cons y l=>cases l with
      |nil=>exact acV (aj g4)
      |cons=>exact bP hq (ry.mpr (Nat.le_add_left 2 _))
    refine c4 ((aP hq).symm.trans e) λs e1 e=> ?_;have qJ:=ao (bM (fS m 3 (3*n))) hm;refine P4 (afk mH hz hl (ao hq (by decide)) (ao (ao (bR _ _) hm) (by decide)) ho hc M g1 g2 g4 g5 g6 hs e1) λaA b1 b2 b3 b4 b5=> ?_;have st:=qm (n:=N+n+1) (EI (σ:=σ) (q:=h::l) (fo:=none) g4 g5) b1;obtain⟨s1,s2,s3⟩:=s;cases s3 with
    |some v=>
     (refine cj e λaL=> ?_;clear e;subst aL);exact⟨aA,st.trans (sQ ((EI (fo:=some v) b3 b4).trans (by rw[Bool.and_comm];rfl))),b2.mono (ao (bR _ _) qJ),b4,b5⟩
    |none=>
     have kp:∀{x v},x≠"v"→x≠"queue"→x≠"free"→x≠"here"→ρ x=some v→aA x=some v:=λh1 h2 h3 h4=>(b5 _ h1 h2 h3 h4).trans;exact l5 (ih N aA _ s1 s2 (m+3) r qJ (u9 mH ho) (j9 (iF hc)) b2 (kp (by decide) (by decide) (by decide) (by decide) g1) (kp (by decide) (by decide) (by decide) (by decide) g2) b3 b4 (kp (by decide) (by decide) (by decide) (by decide) g6) e) λai f1 f2 f3 f4=>
      ⟨ai,st.trans (f1.trans (by rw[uH])),f2,f3,λx h1 h2 h3 h4=>(f4 x h1 h2 h3 h4).trans (b5 x h1 h2 h3 h4)⟩
   ·exact aQ ((aS hq).symm.trans e)
theorem afl(mH:o≠c){place:Int}(n:Nat):∀(N:Nat) (ρ:aO) (σ:ah) (ow:MI) (m:Nat) (f:Int) (j8:MI),m+n≤90→σ[o]? =some (.aU ow)→σ[c]? =some (.aU ca)→gU m ow→gU 60 ca→
 ρ "owner"=some (.loc o)→ρ "came"=some (.loc c)→ρ "free"=some (.int f)→ρ "place"=some (.int place)→mv ca place n ow f=some j8→
 ∃ai,gZ (cB (iG true)) ad0 (N+n) ρ σ=some (.ret .none,ai,σ.set o (.aU j8))∧gU (m+n) j8:=by
 induction n with
 |zero=>exact λz z z z z z z z z z z z z z z z e=>aQ e
 |succ n ih=>
  intro N ρ σ ow m f j8 hm ho hc M C g1 g2 g3 g4 e;refine c4 e λh hl e=> ?_;have s1:bx "here" (aG (af "came") (af "free")) ρ σ=some (.next,ρ.set "here" (.int h),σ):=cf (Oz hc g2 (aj g3) (c4 hl λp a b=>a.trans (bV some (Af b))));generalize aZ:ρ.set "here" (.int h)=aA at s1;have k1:aA "owner"=some (.loc o):=by rw[←aZ];exact g1
  have k2:aA "came"=some (.loc c):=by rw[←aZ];exact g2
  have k3:aA "free"=some (.int f):=by rw[←aZ];exact g3
  have k4:aA "place"=some (.int place):=by rw[←aZ];exact g4
  have k5:aA "here"=some (.int h):=by rw[←aZ];rfl
  have afm:aN n9 [af "came"] aA σ=some (.lst ((oD (ca.map (·.1))).map PV.int),σ):=by
   refine(bp (aV (aj k2))).trans ?_;unfold n9;dsimp only;rw[hc];dsimp only;rw[aP (by have:=C.1;exact ao (bH this 1) (aK rfl))]
  have bJ:(oD (ca.map (·.1))).length≤60:=by
   have h1:∀(a:Int) (l:List Int),(insI a l).length=l.length+1:=λa l=>(insI_perm a l).length_eq;have h2:∀l:List Int,(oD l).length=l.length:=λl=>by
    induction l with
    |nil=>rfl
    |cons a l ih=>show(insI a (oD l)).length=_;rw[h1,ih];rfl
   rw[h2,bB];exact C.1
  have s2:=jL (ρ:=aA) (σ:=σ) (oD (ca.map (·.1))) PV.int PV.int (λv=>IX h (ow.lookup v)) (x:="v") (it:=bE (aN n9 [af "came"])) (cv:=aJ bA (jF (af "owner") "dict" pP [(af "v")]) (af "here")) (e:=af "v") (dq afm rfl) (ao bJ (aK rfl)) (λv z l=>by
   have i3:(σ++ [PO.list l])[o]? =some (.aU ow):=fB ho _;have j1:((aA.drop [".0","v"]).set "v" (.int v)) "owner"=some (.loc o):=k1;have j2:((aA.drop [".0","v"]).set "v" (.int v)) "here"=some (.int h):=k5;have ty:nr "dict" (σ++ [PO.list l]) (.loc o)=true:=by unfold nr;dsimp only;rw[i3];rfl
   have a1:jF (af "owner") "dict" pP [(af "v")] ((aA.drop [".0","v"]).set "v" (.int v)) (σ++ [PO.list l])=some ((ow.lookup v).getD .none,σ++ [PO.list l]):=by
    refine(vF (args:= [.int v]) (aj j1) ty (aV rfl)).trans ?_;exact aao i3
   refine aX a1 (aj j2) ?_;cases hv:ow.lookup v with
   |none=>rfl
   |some p=>obtain⟨x,rfl⟩:=M.look hv;exact gL x h) (λz z z z=>rfl) λz z z=>rfl
  have s3:∀{ρ:aO},ρ "owner"=some (.loc o)→ρ "free"=some (.int f)→ρ "here"=some (.int h)→cW (af "here") (gm (af "owner") (af "free")) ρ σ=some (.next,ρ,σ.set o (.aU (put f (.int h) ow))):=λa1 a2 a3=>OA ho a1 (aj a2) (aj a3) (by have:=M.1;exact cQ (b:=1) (ao (ao (ao (bH this 1) (bH (bR _ _) 1)) hm) (aK rfl)));generalize(oD (ca.map (·.1))).filter (λv=>IX h (ow.lookup v))=left at s2 e;generalize et:aA.set "left" (.lst (left.map .int))=bL;have j1:bL "owner"=some (.loc o):=by rw[←et];exact k1
  have j2:bL "came"=some (.loc c):=by rw[←et];exact k2
  have j3:bL "free"=some (.int f):=by rw[←et];exact k3
  have j4:bL "place"=some (.int place):=by rw[←et];exact k4
  have j5:bL "here"=some (.int h):=by rw[←et];exact k5
  have j6:bL "left"=some (.lst (left.map .int)):=by rw[←et];rfl
  have IZ:=cf (x:="left") s2;rw[et]at IZ;have tr:∀{σ:ah},cB (iG true) ρ σ=some (true,σ):=rfl;by_cases q:h=place
  ·(refine cj ((aP q).symm.trans e) λaL=> ?_;clear e;subst aL);exact⟨bL,Ek tr ((aR s1).trans ((aR IZ).trans ((aR (s3 j1 j3 j5)).trans (bS ((cT (aX (aj j5) (aj j4) ((gL _ _).trans (by rw[bN q])))).trans (bS rfl)))))),(M.put f h).mono (bH (bR _ _) 1)⟩
  ·have e:=(aS q).symm.trans e;cases left with
   |nil=>exact aQ e
   |cons g left=>
    refine aT (ih N (bL.set "free" (.int g)) _ (put f (.int h) ow) (m+1) g j8 (ao (bM (fS _ 1 _)) hm) (j9 (iF ho)) (u9 mH.symm hc) (M.put f h) C j1 j2 rfl j4 e) λai f1 f2=> ?_;exact⟨ai,(qm tr ((aR s1).trans ((aR IZ).trans ((aR (s3 j1 j3 j5)).trans ((aR ((bZ (aX (aj j5) (aj j4) ((gL _ _).trans (by rw[bT q])))).trans rfl)).trans ((aR (cf (gA (i:=0) (aj j6) rfl rfl (by decide)))).trans rfl)))))).trans (f1.trans (by rw[uH])),f2.mono (bM (fS _ 1 _))⟩
end
section
variable{ρ ai:aO}{σ aq τ:ah}{o c:Nat}{ow ca:MI}{b9:List (List Int)}
theorem qy{l:List PV}(h:l.length<1000000000):cq [.lst l] σ=some (.int l.length,σ):=aP h
theorem acW(mH:o≠c){place f:Int}{j8:MI}(ho:σ[o]? =some (.aU ow))(hc:σ[c]? =some (.aU ca))(M:gU m ow)(hm:m≤80)(C:gU 60 ca)(e:mv ca place 5 ow f=some j8):
 Cy [.loc j,.loc o,.loc c,.int f,.int place] σ=some (.none,σ.set o (.aU j8))∧gU (m+5) j8:=by
 refine aT (afl mH 5 995 (bX ["self","owner","came","free","place"] [.loc j,.loc o,.loc c,.int f,.int place] λz=>none) σ ow m f j8 (ao (bH hm 5) (aK rfl)) ho hc M C rfl rfl rfl rfl e) λai h1 h2=> ?_;exact⟨mY rfl (bS h1) rfl (Am (iF ho) h2.lt) rfl (by rw[←kZ (i:=o) (a:=PO.aU j8),qc]),h2⟩
theorem ZE(hl:∀vs∈b9,vs.length≤3)(hj:σ[j]? =some (.inst 463 al))(ha:al.lookup "move_on"=none):∀(ps:List Int) (ow:MI) (τ:ah) (ρ:aO) (m:Nat) (r:Bool),gU m ow→m+5*ps.length≤60→ρ "owner"=some (.loc σ.length)→ρ "lots"=some (.lst (b9.map bf))→ρ "self"=some (.loc j)→gT b9 ps ow=some r→
 ∃ai j8 oK,eU false 0 (a8 "place") PT (ps.map .int) ρ (σ++ .aU ow::τ)=some (if r=true then .next else .ret (.bool false),ai,σ++ .aU j8::oK):=by
 intro x0
 induction x0 with
 |nil=>intro ow τ ρ m r M hm g1 g2 g3 e;cases e;exact⟨ρ,ow,τ,rfl⟩
 |cons p ps ih=>
  intro ow τ ρ m r M hm g1 g2 g3 e;simp only[jb]at hm;have bJ:(σ++PO.aU ow::τ).length=σ.length+1+τ.length:=by simp;exact k7 (bM (fS _ 1 _).symm) (bM (fS _ 1 _))
  generalize hc:(σ++PO.aU ow::τ).length=c at bJ;have mH:σ.length≠c:=gK (ao (bR _ _) (bM bJ.symm));generalize aZ:((((ρ.set "place" (.int p)).set "free" .none).set "queue" (.lst [.int p])).set "came" (.loc c))=aA;have s1:iH ["came","queue","free"] Fo (ρ.set "place" (.int p)) (σ++ .aU ow::τ)=some (.next,aA,σ++ .aU ow::(τ++ [.aU []])):=by
   rw[←aZ,←hc,show σ++PO.aU ow::(τ++ [.aU []])=(σ++ .aU ow::τ)++ [.aU []] by simp];rfl
  have k1:aA "owner"=some (.loc σ.length):=by rw[←aZ];exact g1
  have k2:aA "lots"=some (.lst (b9.map bf)):=aZ▸g2;have k4:aA "came"=some (.loc c):=aZ▸rfl;have ho:∀{τ:ah} {ow:MI},(σ++PO.aU ow::τ)[σ.length]? =some (.aU ow):=fh _ _ _;have gc:∀{x:PO} {ow:MI},(σ++PO.aU ow::(τ++ [x]))[c]? =some x:=λ{x ow}=>by
   have:σ++PO.aU ow::(τ++ [x])=(σ++ .aU ow::τ)++ [x]:=by simp
   rw[this,show c=(σ++PO.aU ow::τ).length by rw[bJ];simp;exact k7 (bM (fS _ 1 _)) (bM (fS _ 1 _).symm)];exact fh _ _ _
  have sc:∀{x y:PO},(σ++PO.aU ow::(τ++ [x])).set c y=σ++PO.aU ow::(τ++ [y]):=λ{x y}=>by
   have:∀x,σ++PO.aU ow::(τ++ [x])=(σ++ .aU ow::τ)++ [x]:=λx=>by simp
   rw[this,this,←hc];exact iD _ _ _ _
  ·refine c4 e λrr hw e=> ?_;obtain⟨bL,f1,f2,f3,f4⟩:=ad1 mH (by have:=M.1;exact ao (ao (ao this (bR _ _)) hm) (aK rfl)) hl 5 994 aA (σ++ .aU ow::(τ++ [.aU []])) [] [p] 0 rr (by decide) ho gc ⟨cH _,λq h=>by cases h⟩ k1 k4 (aZ▸rfl) (aZ▸rfl) k2 hw;rw[sc]at f1;obtain⟨ca,fo⟩:=rr;have j1:=(f4 "owner" (by decide) (by decide) (by decide) (by decide)).trans k1;have j3:=(f4 "self" (by decide) (by decide) (by decide) (by decide)).trans (aZ▸g3:aA "self"=some (.loc j));cases fo with
   |none=>
    (refine cj e λaL=> ?_;clear e;subst aL);exact⟨bL,ow,_,pd (aA:=ρ.set "place" (.int p)) rfl ((aR s1).trans ((aR f1).trans (bS ((cT (aX (aj f3) rfl rfl)).trans (bS (dE rfl))))))⟩
   |some f=>
    ·refine c4 e λj8 hm2 e=> ?_;refine cM (acW (j:=j) mH ho gc M (ao (ao (bR _ _) hm) (aK rfl)) f2 hm2) λm1 m2=> ?_;rw[iD]at m1;refine rF (ih j8 (τ++ [.aU ca]) bL (m+5) r m2 (by lia) j1 ((f4 "lots" (by decide) (by decide) (by decide) (by decide)).trans k2) j3 e) λai ow2 ud e1=> ?_;exact⟨ai,ow2,ud,(ie (aA:=ρ.set "place" (.int p)) rfl ((aR s1).trans ((aR f1).trans ((aR ((bZ (aX (aj f3) rfl rfl)).trans rfl)).trans ((aR (xj ((jx (aj j3) (fB hj _) ha (bC (aj j1) (bC (aj ((f4 "came" (by decide) (by decide) (by decide) (by decide)).trans k4)) (bC (aj f3) (aV (aj ((f4 "place" (by decide) (by decide) (by decide) (by decide)).trans (aZ▸rfl)))))))).trans m1))).trans rfl))))).trans e1⟩
theorem Vp(hj:σ[j]? =some (.inst 463 al))(ha:al.lookup "move_on"=none){e:Dm}(hd:d∈DD)(he:e∈DD){r:Bool}(h:gT [vals d,vals e] [0,1] []=some r):Ci [.loc j,.lst [bf (vals d),bf (vals e)]] σ=some (.bool r,σ):=by
 generalize aZ:(bX ["self","lots"] [.loc j,.lst [bf (vals d),bf (vals e)]] λz=>none).set "owner" (.loc σ.length)=a9;have g2:a9 "lots"=some (.lst ([vals d,vals e].map bf)):=by rw[←aZ];rfl
 obtain⟨ai,j8,oK,h1⟩:=ZE (b9:= [vals d,vals e]) (λvs hv=>by
  simp only[cG,ff,fg]at hv;rcases hv with rfl|rfl
  ·exact(pf d hd).1
  ·exact(pf e he).1) hj ha [0,1] [] [] a9 0 r ⟨cH _,λq h=>by cases h⟩ (by decide) (aZ▸rfl) g2 (aZ▸rfl) h
 have s0:bx "owner" qx (bX ["self","lots"] [.loc j,.lst [bf (vals d),bf (vals e)]] λz=>none) σ=some (.next,a9,σ++ [.aU []]):=aZ▸rfl;have s1:ft (bE (aN gz [(aN cq [(af "lots")])])) (a8 "place") PT a9 (σ++ [.aU []])=_:=(gk (dq ((bp (aV ((bp (aV (aj g2))).trans (qy (l:= [vals d,vals e].map bf) (aK rfl))))).trans rfl:aN gz [(aN cq [(af "lots")])] a9 (σ++ [.aU []])=some (.d7 0 2,σ++ [.aU []])) (mX (by decide) (by decide)))).trans h1;refine s9 (τ:= .aU j8::oK) rfl ?_ rfl;cases r with
 |true=>exact cg s0 (cg s1 (bW rfl))
 |false=>exact cg s0 ⟨_,bS s1⟩
end
def ue:Tl→Prop
 | .le c=>c∈ [(0:Int),1,2,3]
 | .eq c=>c∈ [(0:Int),1,2,3]
 | .ne=>True
 | .gT=>True
 | .tab c=>c∈ [(0:Int),1,2,3]
def EJ(t:Tl)(d e:Dm):Prop:=∀a∈vals d,∀b∈vals e,eW t a b=false
theorem abe{c:Int}(hc:c∈ [(0:Int),1,2,3]){e:Dm}(hd:d∈DD)(he:e∈DD):((kO c).any λq=>gE d q.1&&gE e q.2)=false→EJ (.tab c) d e:=by
 intro h a ha b hb;simp only[eW,lL];intro hm;have hk:∀q∈kO c,q.1∈nJ∧q.2∈nJ:=by
  have:∀c∈ [(0:Int),1,2,3],∀q∈kO c,q.1∈nJ∧q.2∈nJ:=by decide
  exact this c hc
 have:=yO.mp h _ hm;rw[EF d hd _ (hk _ hm).1,EF e he _ (hk _ hm).2,bN ha,bN hb]at this;exact this rfl
variable{tt:Tl}
section
variable{ρ ai:aO}{σ aq τ:ah}{ds cu:List Dm}{m b t j:Nat}{tl:List (Int×PV)}
theorem OB{e:Dm}(hit:it ρ σ=some ([.int 0,.int 1],σ))(hb:σ[b]? =some (dC ds t))(ht:σ[t]? =some (.aU tl))(T:Tn ds cu m tl)(hd:cu[0]? =some d)(he:cu[1]? =some e)(h1:ρ "box"=some (.loc b)):
 runC false [".0","x"] it (a8 "x") (λz σ=>some (true,σ)) (λk=>bK (aN wX [qS]) k) bQ ρ σ=some (.lst [bf (vals d),bf (vals e)],σ):=by
 refine n6 [((0:Nat),d),(1,e)] (λq=> .int (q.1:Nat)) (λq=>bf (vals q.2)) hit (aK rfl) (λy hy l=> ?_) λz z=>va _ _;have g1:((ρ.drop [".0","x"]).set "x" (.int (y.1:Nat))) "box"=some (.loc b):=h1;have lI:cu[y.1]? =some y.2∧y.1<1000000:=by
  simp only[cG,ff,fg]at hy;clear g1;rcases hy with rfl|rfl
  ·exact⟨hd,aK rfl⟩
  ·exact⟨he,aK rfl⟩
 exact(bp (aV (tc (fB hb _) (fB ht _) T lI.1 lI.2 (aj g1) rfl))).trans (Zs y.2 (PN (kM T lI.1)))
theorem XB(hj:σ[j]? =some (.inst 463 al))(ha:∀x∈ ["is_beyond","can_differ","has_row","move_on"],al.lookup x=none)(gG:ue tt){e:Dm}(hb:σ[b]? =some (dC ds t))(ht:σ[t]? =some (.aU tl))(T:Tn ds cu m tl)(hd:cu[0]? =some d)(he:cu[1]? =some e)(nd:d≠ [])(ne:e≠ []):
 ∃r,Cj [.loc j,eT tt,.loc b] σ=some (.bool r,σ)∧(r=true→EJ tt d e):=by
 have dd:=kM T hd;have de:=kM T he;cases tt with
 |le c=>
  refine⟨_,fE rfl (dg (aX (x:= .str "linear_le") rfl rfl (qr ["linear_le","linear_eq"] (by decide))) (bW ((jx (args:= [eT (.le c),.loc b]) rfl hj (ha _ (by decide)) rfl).trans (MX (nm:="linear_le") (c:=c) hb ht T hd he nd ne)))) rfl,λh a ha b hb=> ?_⟩;exact bT (acR d dd e de c gG nd ne h a ha b hb)
 |eq c=>
  refine⟨_,fE rfl (dg (aX (x:= .str "linear_eq") rfl rfl (qr ["linear_le","linear_eq"] (by decide))) (bW ((jx (args:= [eT (.eq c),.loc b]) rfl hj (ha _ (by decide)) rfl).trans (MX (nm:="linear_eq") (c:=c) hb ht T hd he nd ne)))) rfl,λh a ha b hb=> ?_⟩;exact bT (acS d dd e de c gG nd ne h a ha b hb)
 |ne=>
  refine⟨false,?_,λh=>by cases h⟩;refine fE rfl ?_ rfl;refine bq (aX (x:= .str "linear_ne") rfl rfl (qr ["linear_le","linear_eq"] (by decide))) ?_;refine bq (aX (x:= .str "linear_ne") rfl rfl (oi (by decide))) ?_;refine bq (aX (x:= .str "linear_ne") rfl rfl (oi (by decide))) ?_;exact bW rfl
 |gT=>
  obtain⟨r,hr,ji⟩:∃r,gT [vals d,vals e] [0,1] []=some r∧(r=false→EJ .gT d e):=by
   rcases acT d dd e de nd ne with h|⟨h,h2⟩
   ·exact⟨true,h,λh=>by cases h⟩
   ·exact⟨false,h,λz a ha b hb=>by simp[eW,h2 a ha b hb]⟩
  refine⟨!r,?_,λh=>ji (by clear hr ji;cases r<;>first|rfl|cases h)⟩;refine fE rfl ?_ rfl;refine bq (aX (x:= .str "all_different") rfl rfl (qr ["linear_le","linear_eq"] (by decide))) ?_;refine dg (aX (x:= .str "all_different") rfl rfl (oi (by decide))) ?_;have n1:cB QH (bX ["self","told","box"] [.loc j,eT .gT,.loc b] λz=>none) σ=some (false,σ):=
   dn (dz (aX (x:= .int 2) rfl ((bp (args:= [.tup [.int 0,.int 1]]) rfl).trans (ko (aK rfl))) rfl))
  have n2:cB QF (bX ["self","told","box"] [.loc j,eT .gT,.loc b] λz=>none) σ=some (!r,σ):=
   dn (dz (fj (dn ((jx rfl hj (ha _ (by decide)) (aV (OB (ρ:=(bX ["self","told","box"] [.loc j,eT .gT,.loc b] λz=>none)) (it:=bE (aG (af "told") (aw 1))) rfl hb ht T hd he rfl))).trans (Vp hj (ha _ (by decide)) dd de hr)))))
  refine bW (dz ((df n1).trans ?_));cases h: !r with
  |true=>rw[h]at n2;exact dG n2
  |false=>rw[h]at n2;exact(df n2).trans rfl
 |tab c=>
  refine⟨_,?_,λh=>abe gG dd de (by rw[rf]at h;exact h)⟩;refine fE rfl ?_ rfl;refine bq (aX (x:= .str "table") rfl rfl (qr ["linear_le","linear_eq"] (by decide))) ?_;refine bq (aX (x:= .str "table") rfl rfl (oi (by decide))) ?_;refine dg (aX (x:= .str "table") rfl rfl (oi (by decide))) ?_;exact bW (dz (fj (dn ((jx (args:= [eT (.tab c),.loc b]) rfl hj (ha _ (by decide)) rfl).trans (XA hb ht T hd he)))))
end
section
abbrev EK:CE:=runC false [".0","k"] E4 (a8 "k") (λz σ=>some (true,σ)) (λk=>bK (bg [(aG (af "some") (af "k")),(aG (aG (af "lots") (af "k")) (aG (af "spots") (af "k")))]) k) bQ
abbrev GS:CB:=fk [(aJ t8 (af "k") (aw 0)),(aJ bA (aG (af "spots") (af "k")) (bU iM (aN cq [(aG (af "lots") (af "k"))]) (aw 1)))]
abbrev GU:CS:=(ak (cW (aw 0) (gm (af "spots") (af "k")))
 (ak (bx "k" (bU iM (af "k") (aw 1)))
 aC))
abbrev PU:CS:=(ak (bt (cB (aN sP [(af "told"),(aN xu [EK])])) kN aC)
 (ak (bx "k" Fp)
 (ak (gZ GS GU 1000)
 (ak (bt (aJ hU (af "k") (aw 0)) fK aC)
 (ak (cW (bU dj (aG (af "spots") (af "k")) (aw 1)) (gm (af "spots") (af "k")))
 aC)))))
end
section
variable{ρ ai:aO}{σ aq τ:ah}{ds cu:List Dm}{m b t j:Nat}{tl:List (Int×PV)}{A B:List Int}
structure Fh(ρ:aO)(tv:PV)(A B:List Int)(s:Nat):Prop where
 to:ρ "told"=some tv
 so:ρ "some"=some (.tup [.int 0,.int 1])
 lo:ρ "lots"=some (.lst [bf A,bf B])
 sp:ρ "spots"=some (.loc s)
theorem Fh.set{s:Nat}(F:Fh ρ tv A B s)(v:PV):Fh (ρ.set "k" v) tv A B s:=⟨F.to,F.so,F.lo,F.sp⟩
theorem EL{x:String}{l:List PV}{v:PV}{e:CE}(h:σ[k]? =some (.list l))(hx:ρ x=some (.loc k))(he:e ρ σ=some (.int i,σ))(hv:l[i]? =some v)(hz:i<1000000):aG (af x) e ρ σ=some (v,σ):=by
 refine dO (aj hx) he ?_;have:dp σ (.loc k)= .lst l:=by unfold dp;dsimp only;rw[h]
 unfold fZ;rw[this];exact rp hv hz
theorem MY{x:String}{l:List PV}{v:PV}{e f:CE}(h:σ[k]? =some (.list l))(hx:ρ x=some (.loc k))(he:e ρ σ=some (.int i,σ))(hf:f ρ σ=some (v,σ))(hv:i<l.length)(hz:l.length≤1000):cW f (gm (af x) e) ρ σ=some (.next,ρ,σ.set k (.list (l.set i v))):=by
 exact jA hf (Ol (aj hx) he h hv (ao hz (aK rfl)))
theorem abf{s:Nat}(F:Fh ρ tv A B s)(hs:σ[s]? =some (.list [.int i,.int k])){a b:Int}(ha:A[i]? =some a)(hb:B[k]? =some b)(hz:A.length≤1000∧B.length≤1000):EK ρ σ=some (.lst [.tup [.int 0,.int a],.tup [.int 1,.int b]],σ):=by
 refine n6 [((0:Nat),i,a,A),(1,k,b,B)] (λq=> .int (q.1:Nat)) (λq=> .tup [.int (q.1:Nat),.int q.2.2.1]) (dq (v:= .d7 0 2) ((bp (aV ((bp (aV (aj F.so))).trans (ko (l:= [.int 0,.int 1]) (aK rfl)):aN cq [af "some"] ρ σ=some (.int 2,σ)))).trans rfl) (mX (by decide) (by decide))) (aK rfl) (λy hy l=> ?_) λz z=>rfl;have F':Fh ((ρ.drop [".0","k"]).set "k" (.int (y.1:Nat))) tv A B s:=⟨F.to,F.so,F.lo,F.sp⟩;have jj:((ρ.drop [".0","k"]).set "k" (.int (y.1:Nat))) "k"=some (.int (y.1:Nat)):=rfl;have lI:([PV.int 0,PV.int 1][y.1]? =some (.int (y.1:Nat)))∧([bf A,bf B][y.1]? =some (bf y.2.2.2))∧([PV.int i,PV.int k][y.1]? =some (.int (y.2.1:Nat)))∧y.2.2.2[y.2.1]? =some y.2.2.1∧y.1<2∧y.2.1<1000:=by
  simp only[cG,ff,fg]at hy;clear F' jj;rcases hy with rfl|rfl
  ·exact⟨rfl,rfl,rfl,ha,aK rfl,ao ((fe.mp ha).1) hz.1⟩
  ·exact⟨rfl,rfl,rfl,hb,aK rfl,ao ((fe.mp hb).1) hz.2⟩
 (refine G5 lI λy1 y2 y3 y4 y5 y6=> ?_;clear lI);exact d3 (bC (dH (aj F'.so) (aj jj) y1 (ao y5 (aK rfl))) (aV (gA (i:=y.2.1) (gA (aj F'.lo) (aj jj) y2 (ao y5 (aK rfl))) (EL (fB hs _) F'.sp (aj jj) y3 (ao y5 (aK rfl))) (by rw[eM,y4];rfl) (ao y6 (aK rfl)))))
theorem ad2{a b:Int}:r3 (σ++ [.aU [(0,.int a),(1,.int b)]]) (.loc σ.length) a b:=by
 refine⟨bN (by simp),λτ=> ?_⟩;have h:(σ++ [PO.aU [(0,.int a),(1,.int b)]]++τ)[σ.length]? =some (.aU [(0,.int a),(1,.int b)]):=by rw[jo];exact fh _ _ _
 constructor<;>(unfold fZ;rw[En h];dsimp only;rw[h];rfl)
theorem XC{s:Nat}(F:Fh ρ (eT tt) A B s)(hs:σ[s]? =some (.list [.int i,.int k])){a b:Int}(ha:A[i]? =some a)(hb:B[k]? =some b)(hz:A.length≤1000∧B.length≤1000):cB (aN sP [(af "told"),(aN xu [EK])]) ρ σ=some (eW tt a b,σ++ [.aU [(0,.int a),(1,.int b)]]):=
 dn ((bp (bC (aj F.to) (aV ((bp (aV (abf F hs ha hb hz))).trans rfl)))).trans (NG tt ad2))
theorem NO{s:Nat}{p q:Nat}(F:Fh ρ tv A B s)(hs:σ[s]? =some (.list [.int p,.int q])){x:Nat}{X:List Int}(hk:ρ "k"=some (.int i))(hi:i<2)(hx: [PV.int p,PV.int q][i]? =some (.int x))(hX: [bf A,bf B][i]? =some (bf X))(hz:X.length≤1000):GS ρ σ=some (decide ((x:Int)=(X.length:Int)-1),σ):=by
 have t2:aJ bA (aG (af "spots") (af "k")) (bU iM (aN cq [(aG (af "lots") (af "k"))]) (aw 1)) ρ σ=some (decide ((x:Int)=(X.length:Int)-1),σ):=by
  refine aX (y:= .int ((X.length:Int)-1)) (EL hs F.sp (aj hk) hx (ao hi (aK rfl))) ((da ((bp (aV (gA (aj F.lo) (aj hk) hX (ao hi (aK rfl))))).trans (qy (l:=X.map .int) (by rw[bB];exact ao (bH hz 1) (aK rfl)))) rfl).trans ?_) (gL _ _);rw[bB];rfl
 refine(eJ (aX (aj hk) rfl (by show some (decide _)=_;rw[bN (jJ.mpr (eH _))]))).trans ?_;cases h:decide ((x:Int)=(X.length:Int)-1)with
 |true=>rw[h]at t2;exact(eJ t2).trans rfl
 |false=>rw[h]at t2;exact fY t2
end
section
variable{ρ ai:aO}{σ aq τ:ah}{ds cu:List Dm}{m b t j:Nat}{tl:List (Int×PV)}{A B:List Int}
theorem k_one{s:Nat}(F:Fh ρ tv A B s):bx "k" Fp ρ σ=some (.next,ρ.set "k" (.int 1),σ):=
 cf ((da ((bp (aV (aj F.so))).trans (ko (l:= [.int 0,.int 1]) (aK rfl))) rfl).trans rfl)
theorem PW{s p:Nat}{l:List PV}(F:Fh ρ tv A B s)(hs:σ[s]? =some (.list l))(hk:ρ "k"=some (.int i))(hi:l[i]? =some (.int p))(hl:l.length≤1000):ak (bt (aJ hU (af "k") (aw 0)) fK aC) (ak (cW (bU dj (aG (af "spots") (af "k")) (aw 1)) (gm (af "spots") (af "k"))) aC) ρ σ=some (.next,ρ,σ.set s (.list (l.set i (.int (p+1:Nat))))):=by
 have dD:=(fe.mp hi).1;refine(aR ((bZ (aX (aj hk) rfl (?_:some (decide _)=some false))).trans rfl)).trans ((aR (MY hs F.sp (aj hk) ((da (EL hs F.sp (aj hk) hi (ao (ao dD hl) (aK rfl))) rfl).trans rfl) dD hl)).trans rfl);rw[bT (lQ.mpr (sa _))]
theorem OC{s:Nat}{l:List PV}(F:Fh ρ tv A B s)(hs:σ[s]? =some (.list l))(hk:ρ "k"=some (.int i))(hi:i<l.length)(hl:l.length≤1000):GU ρ σ=some (.next,ρ.set "k" (.int (i-1)),σ.set s (.list (l.set i (.int 0)))):=
 (aR (MY hs F.sp (aj hk) rfl hi hl)).trans ((aR (cf ((da (aj hk) rfl).trans rfl))).trans rfl)
theorem afn{G:Prop}{p q:Nat→Prop}(h:∃x,p x)(h2:∃y,q y)(k:∀x y,p x→q y→G):G:=h.elim λx a=>h2.elim λy b=>k x y a b
theorem OD{n:Nat}(h:n=k+1):(k:Int)=(n:Int)-1:=h▸(yJ (k:Int) 1).symm
theorem OE{n y:Nat}(h:n=k+1+(y+1)):¬(k:Int)=(n:Int)-1:=h▸λe=>bP (Int.ofNat.inj (e.trans (yJ ((k+1+y:Nat):Int) 1))) (gK (yI (qb k) (bR _ y)))
theorem ad3(hA:A.length≤3)(hB:B.length≤3):∀(N i k x y:Nat) (ρ:aO) (τ:ah) (a b:Int),A[i]? =some a→B[k]? =some b→A.length=i+1+x→B.length=k+1+y→3*x+y+1≤N→Fh ρ (eT tt) A B σ.length→
 ∃ai oK,gZ (cB (iG true)) PU N ρ (σ++ .list [.int i,.int k]::τ)=some (.ret (.bool ((B.drop k).any (eW tt a)||(A.drop (i+1)).any λa=>B.any (eW tt a))),ai,σ++oK):=by
 intro N
 induction N with
 |zero=>exact λi k x y ρ τ a b z z z z h=>bP h (Nat.not_succ_le_zero _)
 |succ N ih=>
  intro i k x y ρ τ a b ha hb lA lB hN F;have A3:=ao hA (by decide:3≤1000);have B3:=ao hB (by decide:3≤1000);have tr:∀{σ:ah},cB (iG true) ρ σ=some (true,σ):=rfl;have g0:∀{x:PO} {τ:ah},(σ++x::τ)[σ.length]? =some x:=fh _ _ _;have h0:=XC (σ:=σ++ .list [.int i,.int k]::τ) F g0 ha hb ⟨A3,B3⟩;rw[(by rw[Jm ((fe.mp hb).1),(fe.mp hb).2]:B.drop k=b::B.drop (k+1)),uD];cases pU:eW tt a b with
  |true=>
   rw[pU]at h0;exact⟨ρ,_,(Ek tr (bS ((cT h0).trans (bS (dE rfl))))).trans (by rw[jo];rfl)⟩
  |false=>
   rw[pU,jo]at h0;change cB _ ρ _=some (false,σ++ .list [.int i,.int k]::(τ++ [PO.aU [(0,.int a),(1,.int b)]]))at h0;generalize τ++ [PO.aU [(0,.int a),(1,.int b)]]=tw at h0;have F1:=F.set (.int 1);have pre:∀{r:Fl×aO×ah},(ak (gZ GS GU 1000) (ak (bt (aJ hU (af "k") (aw 0)) fK aC) (ak (cW (bU dj (aG (af "spots") (af "k")) (aw 1)) (gm (af "spots") (af "k"))) aC))) (ρ.set "k" (.int 1)) (σ++ .list [.int i,.int k]::tw)=some r→
    PU ρ (σ++ .list [.int i,.int k]::τ)=some r:=λh=>(aR ((bZ h0).trans rfl)).trans ((aR (k_one F)).trans h)
   have t1:=NO (σ:=σ++ .list [.int i,.int k]::tw) F1 g0 (i:=1) rfl (by decide) (x:=k) (X:=B) rfl rfl B3;rw[y9];cases y with
   |succ y=>
    rw[bT (OE lB)]at t1;have hkB:k+1<B.length:=lB▸JS (yR (eH y)) (k+1);have b1:=pre ((aR (sQ (n:=999) t1)).trans (PW F1 g0 (i:=1) rfl rfl (aK rfl)));rw[iD]at b1;exact gM (ih i (k+1) x y (ρ.set "k" (.int 1)) tw a B[k+1] ha (cF hkB) lA (by rw[lB,Dk y 1,←De]) (Uq hN) F1) λai oK h=>⟨ai,oK,(qm tr b1).trans h⟩
   |zero=>
    rw[bN (OD lB)]at t1;have z1:=OC (σ:=σ++ .list [.int i,.int k]::tw) F1 g0 (i:=1) rfl (aK rfl) (aK rfl);rw[iD]at z1;have F0:=F1.set (.int (((1:Nat):Int)-1));have t2:=NO (σ:=σ++ .list [.int i,.int (0:Nat)]::tw) F0 g0 (i:=0) rfl (by decide) (x:=i) (X:=A) rfl rfl A3;rw[JC (bM lB),List.any_nil,y9];cases x with
    |succ x=>
     rw[bT (OE lA)]at t2;have Td:i+1<A.length:=lA▸JS (yR (eH x)) (i+1);have b1:=pre ((aR ((qm (n:=999) t1 z1).trans (sQ (n:=998) t2))).trans (PW F0 g0 (i:=0) rfl rfl (aK rfl)));rw[iD]at b1;have B0:0<B.length:=lB▸Dh k;refine gM (ih (i+1) 0 x k _ tw A[i+1] B[0] (cF Td) (cF B0) (by rw[lA,Dk x 1,←De]) (lB.trans (Dk k 1)) (ao (JS (lB▸hB:k+1≤3) (3*x)) (Uq hN)) F0) λai oK h=>⟨ai,oK,(qm tr b1).trans (h.trans ?_)⟩;rw[Jm Td,uD,List.drop_zero]
    |zero=>
     rw[bN (OD lA)]at t2;have z2:=OC (σ:=σ++ .list [.int i,.int (0:Nat)]::tw) F0 g0 (i:=0) rfl (aK rfl) (aK rfl);rw[iD]at z2;rw[JC (bM lA)];exact⟨_,_,Ek tr (pre ((aR ((qm (n:=999) t1 z1).trans ((qm (n:=998) t2 z2).trans (sQ (n:=997) (fY (aX rfl rfl rfl)))))).trans (bS ((cT (aX rfl rfl rfl)).trans (bS (dE rfl))))))⟩
theorem XD{A:List Int}(h:0<A.length)(p:Int→Int→Bool)(C:List Int):((C.drop 0).any (p A[0])||(A.drop (0+1)).any λa=>C.any (p a))=A.any λa=>C.any (p a):=by
 cases A with
 |nil=>cases h
 |cons a A=>rfl
theorem VU{e:Dm}(hb:σ[b]? =some (dC ds t))(ht:σ[t]? =some (.aU tl))(T:Tn ds cu m tl)(hd:cu[0]? =some d)(he:cu[1]? =some e)(nd:d≠ [])(ne:e≠ []):
 Cq [.loc j,eT tt,.tup [.int 0,.int 1],.loc b] σ=some (.bool ((vals d).any λa=>(vals e).any (eW tt a)),σ):=by
 have dd:=kM T hd;have de:=kM T he;have nA:0<(vals d).length:=JT.mpr λh=>nd (xm d dd h);have nB:0<(vals e).length:=JT.mpr λh=>ne (xm e de h);have hA:=(pf d dd).1;have hB:=(pf e de).1;have b9:=OB (ρ:=(bX ["self","told","some","box"] [.loc j,eT tt,.tup [.int 0,.int 1],.loc b] λz=>none)) (it:=bE (af "some")) rfl hb ht T hd he rfl;generalize aZ:((bX ["self","told","some","box"] [.loc j,eT tt,.tup [.int 0,.int 1],.loc b] λz=>none).set "lots" (.lst [bf (vals d),bf (vals e)])).set "spots" (.loc σ.length)=a9;have F:Fh a9 (eT tt) (vals d) (vals e) σ.length:=by rw[←aZ];exact⟨rfl,rfl,rfl,rfl⟩
 refine afn (Uh nA) (Uh nB) λx y lA lB=> ?_;have lA:(vals d).length=0+1+x:=lA;have lB:(vals e).length=0+1+y:=lB;refine gM (ad3 (σ:=σ) (tt:=tt) hA hB 1000 0 0 x y a9 [] (vals d)[0] (vals e)[0] (cF nA) (cF nB) lA lB (ao (yR (Nat.add_le_add (Nat.mul_le_mul_left 3 (T6 (a:=0+1) (lA▸hA:0+1+x≤0+1+2))) (T6 (a:=0+1) (lB▸hB:0+1+y≤0+1+2)))) (by decide)) F) λai oK h=> ?_;have hm:AH σ (.lst [.int 0]) (.int 2)=some (.loc σ.length,σ++ [.list [.int (0:Nat),.int (0:Nat)]]):=by
  have:(if 0≤(2:Int)∧(2:Int)≤100000∧ [PV.int 0].length=1 then some (PV.loc σ.length,σ++ [PO.list (jI (2:Int).toNat [PV.int 0]).flatten])else none)=some (.loc σ.length,σ++ [.list [.int (0:Nat),.int (0:Nat)]]):=aP ⟨by decide,by decide,rfl⟩;exact this
 have hl:aN cq [af "some"] ((bX ["self","told","some","box"] [.loc j,eT tt,.tup [.int 0,.int 1],.loc b] λz=>none).set "lots" (.lst [bf (vals d),bf (vals e)])) σ=some (.int 2,σ):=
  (bp (aV (aj (v:= .tup [.int 0,.int 1]) rfl))).trans (ko (l:= [.int 0,.int 1]) (aK rfl))
 have s2:bx "spots" O5 ((bX ["self","told","some","box"] [.loc j,eT tt,.tup [.int 0,.int 1],.loc b] λz=>none).set "lots" (.lst [bf (vals d),bf (vals e)])) σ=some (.next,a9,σ++ [.list [.int (0:Nat),.int (0:Nat)]]):=by
  rw[←aZ];exact cf ((da rfl hl).trans hm)
 rw[(XD nA _ _)]at h;exact s9 (τ:=oK) rfl (cg (cf b9) (cg s2 ⟨ai,bS h⟩)) rfl
end
section
abbrev fTail:CS:=Sy
end
section
variable{ρ ai:aO}{σ aq τ:ah}{ds cu:List Dm}{m b t j:Nat}{tl:List (Int×PV)}
noncomputable def lU(ds:List Dm):List (String×PV):= [("domains",.lst (ds.map eD)),("most",.int 100)]
theorem Ww(ds:List Dm):∀x∈ ["is_beyond","can_differ","has_row","move_on"],(lU ds).lookup x=none:=by
 intro x hx;simp only[cG,ff,fg]at hx;rcases hx with rfl|rfl|rfl|rfl<;>rfl
theorem abg(gG:ue tt)(hj:σ[j]? =some (.inst 463 (lU ds))){e:Dm}(hb:σ[b]? =some (dC ds t))(ht:σ[t]? =some (.aU tl))(T:Tn ds cu m tl)(hd:cu[0]? =some d)(he:cu[1]? =some e)(nd:d≠ [])(ne:e≠ [])
 (g1:ρ "self"=some (.loc j)) (g2:ρ "told"=some (eT tt)) (g3:ρ "box"=some (.loc b)):Rt fTail ρ σ (.bool (!((vals d).any λa=>(vals e).any (eW tt a)))) σ:=by
 refine cg (cf ((bp (aV (aj g2))).trans (acN tt))) ?_;generalize aZ:ρ.set "some" (.tup [.int 0,.int 1])=aA;have k1:aA "self"=some (.loc j):=aZ▸g1;have k2:aA "told"=some (eT tt):=aZ▸g2;have k3:aA "box"=some (.loc b):=aZ▸g3;have k4:aA "some"=some (.tup [.int 0,.int 1]):=aZ▸rfl;have c1:runC false [".0","x"] (bE (af "some")) (a8 "x") (λz σ=>some (true,σ)) (λk=>bK qS k) bQ aA σ=some (.lst ([d,e].map eD),σ):=by
  refine(n6 [((0:Nat),d),(1,e)] (λq=> .int (q.1:Nat)) (λq=>eD q.2) (dq (aj k4) rfl) (aK rfl) (λy hy l=> ?_) λz z=>l4 _ _).trans rfl;have g1:((aA.drop [".0","x"]).set "x" (.int (y.1:Nat))) "box"=some (.loc b):=k3;have lI:cu[y.1]? =some y.2∧y.1<1000000:=by
   simp only[cG,ff,fg]at hy;clear g1;rcases hy with rfl|rfl
   ·exact⟨hd,aK rfl⟩
   ·exact⟨he,aK rfl⟩
  exact tc (fB hb _) (fB ht _) T lI.1 lI.2 (aj g1) rfl
 have n1:aJ di (bg []) QJ aA σ=some (false,σ):=
  aX rfl c1 (NM λx hx=>by
   simp only[cG,ff,fg]at hx;clear c1;rcases hx with rfl|rfl
   ·exact nd
   ·exact ne)
 refine aT (XB (j:=j) hj (Ww ds) gG hb ht T hd he nd ne) λr r1 r2=> ?_;have n2:cB O6 aA σ=some (r,σ):=dn ((jx (aj k1) hj rfl (bC (aj k2) (aV (aj k3)))).trans r1);cases r with
 |true=>
  have:((vals d).any λa=>(vals e).any (eW tt a))=false:=by
   rw[yO];intro a ha hh;refine aT (wq.mp hh) λb hb hk=> ?_;rw[(r2 rfl) a ha b hb]at hk;(first|exact aQ hk|exact dA hk|exact cL hk)
  rw[this];exact dg ((df n1).trans (dG n2)) (bW rfl)
 |false=>
  refine bq ((df n1).trans ((df n2).trans rfl)) ?_;refine cg (cf rfl) ?_;generalize et:aA.set "many" (.int 1)=bL;have j3:bL "box"=some (.loc b):=et▸k3;have j4:bL "some"=some (.tup [.int 0,.int 1]):=et▸k4;have st:∀(ρ:aO) (i:Nat) (y:Dm) (q:Int),cu[i]? =some y→i<2→ρ "box"=some (.loc b)→ρ "many"=some (.int q)→(-1000000000<q∧q<1000000000)→ak O7 aC (ρ.set "x" (.int i)) σ=some (.next,(ρ.set "x" (.int i)).set "many" (.int (q*ou y)),σ):=λρ i y q hy hi h1 h2 hq=>by
   have e1:(ρ.set "x" (.int i)) "box"=some (.loc b):=h1;have e2:(ρ.set "x" (.int i)) "many"=some (.int q):=h2;exact(aR (cf ((da (aj e2) ((bp (aV (tc hb ht T hy (by exact ao hi (aK rfl)) (aj e1) rfl))).trans (acL y (ao (EE y (kM T hy)) (by decide))))).trans (aP hq)))).trans rfl
  have z1:=(pf d (kM T hd));have z2:=(pf e (kM T he));have l1:=st bL 0 d 1 hd (by decide) j3 (et▸rfl) (by decide);generalize iV:(bL.set "x" (.int ((0:Nat):Int))).set "many" (.int (1*ou d))=dw at l1;have l2:=st dw 1 e (1*ou d) he (by decide) (iV▸j3) (iV▸rfl) (by rw[z1.2.1];have:=z1.1;omega);generalize qF:(dw.set "x" (.int ((1:Nat):Int))).set "many" (.int (1*ou d*ou e))=jf at l2;have f1:jf "self"=some (.loc j):=by rw[←qF,←iV];exact(et▸k1:bL "self"=some (.loc j))
  have f2:jf "told"=some (eT tt):=by rw[←qF,←iV];exact(et▸k2:bL "told"=some (eT tt))
  have f3:jf "box"=some (.loc b):=by rw[←qF,←iV];exact j3
  have f4:jf "some"=some (.tup [.int 0,.int 1]):=by rw[←qF,←iV];exact j4
  refine cg ((gk (dq (aj j4) rfl)).trans ((ie (aA:=bL.set "x" (.int ((0:Nat):Int))) rfl l1).trans ((ie (aA:=dw.set "x" (.int ((1:Nat):Int))) rfl l2).trans Ak))) ?_;have hle:1*ou d*ou e≤100:=by
   have:=Int.mul_le_mul (show((vals d).length:Int)≤3 by have:=z1.1;exact jJ.mpr z1.1) (show((vals e).length:Int)≤3 by have:=z2.1;exact jJ.mpr z2.1) (jJ.mpr (eH _)) (by decide);lia
  refine dg (aX (aj (qF▸rfl:jf "many"=some (.int (1*ou d*ou e)))) (jR (v:= .int 100) (aj f1) hj rfl) (by show some (decide _)=_;rw[bN hle])) ?_;exact bW (dz (fj (dn ((jx (aj f1) hj rfl (bC (aj f2) (bC (aj f4) (aV (aj f3))))).trans (VU hb ht T hd he nd ne)))))
def i6(tt:Tl)(ks:List K3)(L:List (List Int)):Bool:=decide ([]∈fb ks L)|| !((fG ks 0 (L.getD 0 [])).any λa=>(fG ks 1 (L.getD 1 [])).any (eW tt a))
theorem XE(gG:ue tt){ks:List K3}(hj:σ[j]? =some (.inst 463 (lU ds)))(hn:ds.length≤1000)(qN:2≤ds.length)(hd:∀d∈ds,d∈DD∧d≠ [])(hk:∀l∈ks,dQ ds.length l)(hz:ks.length≤1000):
 yC [.loc j,eT tt,bh ks] σ=some (.bool (i6 tt ks (ds.map vals)),σ):=by
 generalize aZ:((bX ["self","told","clause"] [.loc j,eT tt,bh ks] λz=>none).set "box" (.loc σ.length))=a9;have g1:a9 "self"=some (.loc j):=by rw[←aZ];rfl
 have g4:a9 "box"=some (.loc σ.length):=aZ▸rfl;have hb:∀{o:PO},(σ++ [dC ds (σ.length+1),o])[σ.length]? =some (dC ds (σ.length+1)):=fh _ _ _;have ht:∀{o:PO},(σ++ [dC ds (σ.length+1),o])[σ.length+1]? =some o:=λ{o}=>by rw[mJ (bR _ 1),um];rfl
 have l8:∀{o o':PO},(σ++ [dC ds (σ.length+1),o]).set (σ.length+1) o'=σ++ [dC ds (σ.length+1),o']:=λ{o o'}=>by rw[JH _ _ (bR _ 1),um];rfl
 obtain⟨r,gH,fL,f1,f2,f3,f4,f5⟩:=Ou (σ:=σ++ [dC ds (σ.length+1),.aU []]) (b:=σ.length) (gK (cH _)) hb ht (Ot λd h=>(hd d h).1) (ks:=ks) (by omega) hn hk;rw[l8]at f1;have cv:bY xT a9 (σ++ [dC ds (σ.length+1),.aU []])=some (!r,σ++ [dC ds (σ.length+1),.aU fL]):=fj (dn ((jx (aj g4) hb rfl (aV (aj (aZ▸rfl)))).trans f1));have s0:bx "box" O8 (bX ["self","told","clause"] [.loc j,eT tt,bh ks] λz=>none) σ=some (.next,a9,σ++ [dC ds (σ.length+1),.aU []]):=by
  rw[←aZ];exact cf ((bp (aV (jR (v:= .lst (ds.map eD)) rfl hj rfl))).trans (NJ _))
 refine s9 (τ:= [dC ds (σ.length+1),.aU fL]) rfl (cg s0 ?_) rfl;cases r with
 |false=>
  refine gD (f5 rfl) λi d h1 h2=> ?_;have:i6 tt ks (ds.map vals)=true:=by
   unfold i6;rw[bN (NL (by rw[eM,h1];rfl) h2)];rfl
  rw[this];exact dg cv (bW rfl)
 |true=>
  refine cM (f4 rfl λd h=>(hd d h).2) λh1 h2=> ?_;have d0:ds[0]? =some ds[0]:=cF (cQ (b:=1) (ao qN (bR _ 1)));have d1:ds[1]? =some ds[1]:=cF (qN);refine aT (h2 0 ds[0] d0) λx x1 x2=> ?_;refine aT (h2 1 ds[1] d1) λy y1 y2=> ?_;have:i6 tt ks (ds.map vals)= !((vals x).any λa=>(vals y).any (eW tt a)):=by
   unfold i6;rw[←(NK f3 h2),bT (KS f2 h1),x2,y2];rw[eX,eX,eM,eM,d0,d1];rfl
  rw[this];exact bq cv (abg gG (fB hj _) hb ht f2 x1 y1 (h1 x (lM x1)) (h1 y (lM y1)) g1 (aZ▸rfl) g4)
end
noncomputable def signs:List String:= ["<=",">=","=","!="]
theorem abh{s:String}:jk s↔s∈signs:=by simp only[jk,signs,cG,ff,fg]
def El(p:PV):Prop:=∃x s k,p= .tup [x,.str s,.int k]∧((∃i,x= .int i)∨∃b,x= .bool b)∧ -2≤k∧k≤3
def nD(n:Nat)(p:PV):Bool:=match p with
 | .tup [.int i,.str s,.int _]=>decide (0≤i∧i<n)&&decide (s∈signs)
 |_=>false
theorem ZF{n:Nat}{p:PV}(h:El p)(h2:nD n p=true):∃l:K3,p=l.pv∧dQ n l:=by
 (refine oy h λx s k gR hx hk=> ?_;clear h;subst gR);rcases hx with⟨i,rfl⟩|⟨b,rfl⟩
 ·have h2:=h8.mp h2;exact⟨(i,s,k),rfl,fQ h2.1,abh.mpr (fQ h2.2),hk⟩
 ·(first|exact aQ h2|exact dA h2|exact cL h2)
def rK(ks:List K3):Bool:=decide (iQ ks=ks)
theorem NP{ks:List K3}:iQ ks=ks↔ks.Pairwise (λx y=>fx x y=true):=
 ⟨λh=>by rw[←h];exact xa ks,λh=>zF (xa ks) h λx=>uQ⟩
theorem abi{ks:List K3}:(∀k:Nat,(h:k+1<ks.length)→fx ks[k] ks[k+1]=true)↔iQ ks=ks:=by
 rw[NP,Cc];constructor
 ·intro h i j hi hj BS;obtain⟨d,rfl⟩:∃d,j=i+1+d:=⟨j-(i+1),(Nat.add_sub_cancel' BS).symm⟩
  induction d with
  |zero=>exact h i hj
  |succ d ih=>exact zE (ih (cQ (b:=1) (ao hj (bR _ 1))) (bR _ _)) (h (i+1+d) (hj))
 ·intro h k hk;exact h k (k+1) (cQ (b:=1) (ao hk (bR _ 1))) hk (cH _)
theorem Az{n:Nat}:∀{es:List PV},(∀p∈es,El p)→es.all (nD n)=true→∃ks:List K3,es=ks.map K3.pv∧∀l∈ks,dQ n l
 | [],_,_=>⟨[],rfl,λz h=>by cases h⟩
 |p::es,h,h2=>by
  rw[wC,ia]at h2;(refine aT (ZF (h p (.head _)) h2.1) λl aM hl=> ?_;subst aM);(refine aT (Az (λp hp=>h p (.tail _ ‹_›)) h2.2) λks aM qX=> ?_;subst aM);exact⟨l::ks,rfl,λx hx=>by
   rcases cG.mp hx with rfl|hx
   ·exact hl
   ·exact qX x hx⟩
section
abbrev RD(w:List PV→ah→Option (PV×ah)):CB:=dh [Fu,Ft,(bY (cB (aN w [(aG (af "one") (aw 0))]))),(bY (cB (aN w [(aG (af "one") (aw 2))])))]
abbrev ad4(w:List PV→ah→Option (PV×ah))(t2:CB):CS:=(ak (bt (RD w) fK aC)
 (ak (bt t2 fK aC)
 aC))
end
section
variable{ρ ai:aO}{σ aq τ:ah}{n:Nat}
theorem Mf(i:Int):js [.int i] σ=some (.bool true,σ):=zx _ rfl
theorem Wx(b:Bool):js [.bool b] σ=some (.bool false,σ):=zx _ rfl
theorem nE{x:String}{p:PV}{b:Bool}(hx:ρ x=some p)(hp:qA "tuple" p=some b):bY (cB (gN "tuple" (af x))) ρ σ=some (!b,σ):=fj (dn ((bb (aj hx)).trans ((bb hp).trans rfl)))
theorem acX{p:PV}(h1:ρ "one"=some p)(hp:El p):RD js ρ σ=some (match p with| .tup [.int _,_,_]=>false|_=>true,σ):=by
 (refine oy (hp) λx s k eG hx hk=> ?_;subst eG);refine(df (nE h1 rfl)).trans ((df (aX ((bp (aV (aj h1))).trans (ko (aK rfl))) rfl rfl)).trans ?_);have s0:aG (af "one") (aw 0) ρ σ=some (x,σ):=dH (i:=0) (aj h1) rfl rfl (by decide);rcases hx with⟨i,rfl⟩|⟨b,rfl⟩
 ·exact(df (fj (t:=true) (dn ((bp (aV s0)).trans (Mf i))))).trans ((df (fj (dn ((bp (aV (dH (i:=2) (aj h1) rfl rfl (by decide)))).trans (Mf k))))).trans rfl)
 ·exact dG (fj (t:=false) (dn ((bp (aV s0)).trans (Wx b))))
theorem MZ{t2:CB}(gG:∀(i:Int) (s:String) (k:Int) (ai:aO),(∀x,x≠"one"→ai x=ρ x)→ai "one"=some (.tup [.int i,.str s,.int k])→t2 ai σ=some (!(nD n (.tup [.int i,.str s,.int k])),σ)):∀(es:List PV) (ai:aO),(∀x,x≠"one"→ai x=ρ x)→(∀p∈es,El p)→
 ∃kA,eU false 0 (a8 "one") (ad4 js t2) es ai σ=some (if es.all (nD n)=true then .next else .ret (.bool false),kA,σ)∧∀x,x≠"one"→kA x=ρ x:=by
 intro x0
 induction x0 with
 |nil=>exact λai h z=>⟨ai,rfl,h⟩
 |cons p es ih=>
  intro ai h he;have l8:∀x,x≠"one"→(ai.set "one" p) x=ρ x:=λx hx=>by unfold aO.set;rw[aS hx];exact h x hx
  have hE:=he p (.head _);have b1:=acX (ρ:=ai.set "one" p) (σ:=σ) rfl hE;(refine oy (hE) λx s k eG hx hk=> ?_;subst eG);rw[wC];rcases hx with⟨i,rfl⟩|⟨b,rfl⟩
  ·have h2:=gG i s k (ai.set "one" (.tup [.int i,.str s,.int k])) l8 rfl;cases B5:nD n (.tup [.int i,.str s,.int k])with
   |false=>
    rw[B5]at h2;exact⟨_,pd (aA:=ai.set "one" (.tup [.int i,.str s,.int k])) rfl ((aR ((bZ b1).trans rfl)).trans (bS ((cT h2).trans (bS (dE rfl))))),l8⟩
   |true=>
    rw[B5]at h2;refine aT (ih (ai.set "one" (.tup [.int i,.str s,.int k])) l8 λp hp=>he p (.tail _ ‹_›)) λkA f1 f2=> ?_;exact⟨kA,(ie (aA:=ai.set "one" (.tup [.int i,.str s,.int k])) rfl ((aR ((bZ b1).trans rfl)).trans ((aR ((bZ h2).trans rfl)).trans rfl))).trans f1,f2⟩
  ·exact⟨_,pd (aA:=ai.set "one" (.tup [.bool b,.str s,.int k])) rfl (bS ((cT b1).trans (bS (dE rfl)))),l8⟩
theorem LG{i:Int}{s:String}{k:Int}(h:ρ "one"=some (.tup [.int i,.str s,.int k])):aJ ej (aG (af "one") (aw 1)) HA ρ σ=some (decide (s∉signs),σ):=
 aX (dH (i:=1) (aj h) rfl rfl (by decide)) rfl (Mb signs rfl)
def Cl(C:PV):Prop:=∃es:List PV,(C= .tup es∨C= .lst es)∧es.length≤4∧∀p∈es,El p
def fN(n:Nat)(C:PV):Bool:=match C with
 | .tup es=>es.all (nD n)&&(match keysOf es with|some ks=>rK ks|none=>false)
 |_=>false
theorem sA:∀(ks:List K3),keysOf (ks.map K3.pv)=some ks:=by
 intro x0
 induction x0 with
 |nil=>exact rfl
 |cons k ks ih=>
  show(keyOf k.pv).bind _=_;rw[ih];rfl
theorem AA{C:PV}(h:Cl C)(h2:fN n C=true):∃ks,C=bh ks∧(∀l∈ks,dQ n l)∧ks.length≤4∧iQ ks=ks:=by
 (refine cY h λes hC hz he=> ?_;clear h);rcases hC with rfl|rfl
 ·have h2:=h8.mp h2;(refine aT (Az he h2.1) λks aM qX=> ?_;clear he;subst aM);rw[sA]at h2;exact⟨ks,rfl,qX,by simpa using hz,fQ h2.2⟩
 ·(first|exact aQ h2|exact dA h2|exact cL h2)
theorem Vb{C:PV}(h:Cl C):CQ [C,.int n] σ=some (.bool (fN n C),σ):=by
 (refine cY h λes hC hz he=> ?_;clear h);rcases hC with rfl|rfl
 ·obtain⟨ai,f1,f2⟩:=MZ (n:=n) (σ:=σ) (ρ:=bX ["thing","many"] [.tup es,.int n] λz=>none) (t2:=dh [(aJ sO (aG (af "one") (aw 0)) xW),Bo]) (λi s k ai hm h1=>by
   have n1:aJ sO (aG (af "one") (aw 0)) xW ai σ=some (!decide (0≤i∧i<n),σ):=aX (y:= .d7 0 n) (dH (i:=0) (aj h1) rfl rfl (by decide)) ((bp (aV (aj ((hm _ (by decide)).trans rfl)))).trans rfl) rfl;have n2:=LG (ρ:=ai) (σ:=σ) h1;show _=some (!(decide (0≤i∧i<n)&&decide (s∈signs)),σ);cases h:decide (0≤i∧i<n)with
   |false=>rw[h]at n1;exact dG n1
   |true=>
    rw[h]at n1;refine(df n1).trans ?_;rw[decide_not]at n2;cases h2:decide (s∈signs)with
    |false=>rw[h2]at n2;exact dG n2
    |true=>rw[h2]at n2;exact(df n2).trans rfl) es _ (λz z=>rfl) he
  have s0:bY (cB (gN "tuple" (af "thing"))) (bX ["thing","many"] [.tup es,.int n] λz=>none) σ=some (false,σ):=nE (b:=true) rfl rfl;cases dU:es.all (nD n)with
  |false=>
   rw[dU]at f1;have:fN n (.tup es)=false:=by show(es.all (nD n)&&_)=false;rw[dU];rfl
   rw[this];exact d9 rfl ((aR ((bZ s0).trans rfl)).trans (bS ((gk rfl).trans f1))) rfl
  |true=>
   rw[dU]at f1;(refine aT (Az he dU) λks aM qX=> ?_;clear he;subst aM);have:fN n (.tup (ks.map K3.pv))=rK ks:=by show(List.all _ (nD n)&&_)=_;rw[dU,sA];rfl
   rw[this];refine fE rfl (bq s0 (cg ((gk rfl).trans f1) (bW (dz ?_)))) rfl;have ht:ai "thing"=some (.tup (ks.map K3.pv)):=(f2 _ (by decide)).trans rfl;rw[bB]at hz;have hr:itemsOf (.d7 1 ks.length)=some ((dK (ks.length-1)).map λi:Nat=>PV.int ((i:Int)+1)):=by
    rw[mX (by decide) (⟨(dS (gV (by decide) (sa _))),(dS (i9 (jJ.mpr hz) (by decide)))⟩)];unfold fC;rw[show((ks.length:Int)-1).toNat=ks.length-1 by lia];congr 1;refine yE λi z=> ?_;rw[Int.add_comm]
   refine aX (jL (dK (ks.length-1)) (λi=>PV.int ((i:Int)+1)) (λi=>PV.int ((i:Int)+1)) (λi=> !fx (ks.getD i default) (ks.getD (i+1) default)) (dq ((bp (bC rfl (aV ((bp (aV (aj ht))).trans ((ko (by rw[bB];exact ao (bH hz 1) (aK rfl))).trans (by rw[bB])))))).trans rfl) hr) (by rw[q9];exact ao (ao (uN _ _) hz) (aK rfl)) (λi hi l=> ?_) (λz z z z=>rfl) λz z z=>rfl) rfl (sJ (n:=0) (kg.mpr λp hp=>by obtain⟨x,_,rfl⟩:=dR.mp hp;rfl) (by decide) ?_)
   ·have hi:=gW.mp hi;have t1:((ai.drop [".0","k"]).set "k" (.int ((i:Int)+1))) "thing"=some (.tup (ks.map K3.pv)):=ht;have get:∀j,j<ks.length→(ks.map K3.pv)[j]? =some (ks.getD j default).pv:=λj hj=>by rw[eM,eX,cF hj];rfl
    refine fj (aX (dH (i:=i) (aj t1) ((da (x:= .int ((i:Int)+1)) (y:= .int 1) rfl rfl).trans (by show some (PV.int ((i:Int)+1-1),_)=_;rw[yJ])) (get i (ao hi (uN _ _))) (ao (ao (ao hi (uN _ _)) hz) (aK rfl))) (dH (i:=i+1) (aj t1) (aj rfl) (get (i+1) (by lia)) (ao (ao (ao (bH hi 1) (bH (uN _ _) 1)) (bH hz 1)) (aK rfl))) rfl)
   ·unfold rK;rw[rg,q8,oM,←abi];have gd:∀j (hj:j<ks.length),ks.getD j default=ks[j]:=λj hj=>by rw[eX,cF hj];rfl
    constructor
    ·intro h i hi;have gv:=gW.mp hi;rw[gd i (ao gv (uN _ _)),gd (i+1) (by lia),h i (by lia)];decide
    ·intro h i hi;have h1:=h i (gW.mpr (by lia));rw[gd i (cQ (b:=1) (ao hi (bR _ 1))),gd (i+1) (hi)]at h1;simpa using h1
 ·exact fE rfl (dg (nE (b:=false) (p:= .lst es) rfl rfl) (bW rfl)) rfl
end
structure b8 where
 ds:List Dm
 t0:Tl
 t1:Tl
 kind:String
 gx:PV
noncomputable def b8.goal(c:b8):PV:= .tup [.str c.kind,c.gx]
structure b8.ok(c:b8):Prop where
 len:c.ds.length=2∨c.ds.length=3
 dd:∀d∈c.ds,d∈DD∧d≠ []
 k0:ue c.t0
 k1:ue c.t1
 goal:(c.kind="satisfy"∧c.gx= .none)∨((c.kind="minimize"∨c.kind="maximize")∧c.gx= .int 0)
def jY(c:b8)(j:Nat)(ta:PV)(a:Nat):List (String×PV):= [("domains",.lst (c.ds.map eD)),("tolds",.lst [eT c.t0,eT c.t1]),("goal",c.goal),("judge",.loc j),("told_apart",ta),("answers",.loc a)]
section
variable{ρ ai:aO}{σ aq τ:ah}{n k j a:Nat}{c:b8}{ta:PV}
theorem EM{g:gq}{a b d:CE}{x y z:PV}{t u:Bool}(h1:a ρ σ=some (x,σ))(h2:b ρ σ=some (y,σ))(h3:f σ x y=some t)(h4:d ρ σ=some (z,σ))(h5:g σ y z=some u):pq f g a b d ρ σ=some (t&&u,σ):=by
 refine(bb h1).trans ((bb h2).trans ((bb h3).trans ?_));cases t with
 |true=>exact(bb h4).trans (bb h5)
 |false=>rfl
theorem OF(hc:σ[k]? =some (.inst 539 (jY c j ta a)))(h:ρ "self"=some (.loc k)):ij (af "self") 539 "domains" ρ σ=some (.lst (c.ds.map eD),σ):=jR (aj h) hc rfl
theorem NQ(C:c.ok)(hc:σ[k]? =some (.inst 539 (jY c j ta a)))(h:ρ "self"=some (.loc k)):aN cq [pR] ρ σ=some (.int c.ds.length,σ):=
 (bp (aV (OF hc h))).trans ((qy (by rw[bB];have:=C.len;lia)).trans (by rw[bB]))
theorem Vc(K:c.ok){C:PV}(h:Cl C)(hc:σ[k]? =some (.inst 539 (jY c j ta a))):Ck [.loc k,C] σ=some (.bool (fN c.ds.length C),σ):=by
 (refine cY h λes hC hz he=> ?_;clear h);rcases hC with rfl|rfl
 ·obtain⟨ai,f1,f2⟩:=MZ (n:=c.ds.length) (σ:=σ) (ρ:=bX ["self","clause"] [.loc k,.tup es] λz=>none) (t2:=dh [(bY HB),Bo]) (λi s k2 ai hm h1=>by
   have n1:bY HB ai σ=some (!(decide (0≤i)&&decide (i<c.ds.length)),σ):=fj (EM rfl (dH (i:=0) (aj h1) rfl rfl (by decide)) rfl (NQ K hc ((hm _ (by decide)).trans rfl)) rfl);have n2:=LG (ρ:=ai) (σ:=σ) h1;show _=some (!(decide (0≤i∧i<c.ds.length)&&decide (s∈signs)),σ);rw[←Kn]at n1;cases h:decide (0≤i∧i<c.ds.length)with
   |false=>rw[h]at n1;exact dG n1
   |true=>
    rw[h]at n1;refine(df n1).trans ?_;rw[decide_not]at n2;cases h2:decide (s∈signs)with
    |false=>rw[h2]at n2;exact dG n2
    |true=>rw[h2]at n2;exact(df n2).trans rfl) es _ (λz z=>rfl) he
  have s0:bY (cB (gN "tuple" (af "clause"))) (bX ["self","clause"] [.loc k,.tup es] λz=>none) σ=some (false,σ):=nE (b:=true) rfl rfl;cases dU:es.all (nD c.ds.length)with
  |false=>
   rw[dU]at f1;have:fN c.ds.length (.tup es)=false:=by simp only[fN,dU,uB]
   rw[this];exact d9 rfl ((aR ((bZ s0).trans rfl)).trans (bS ((gk rfl).trans f1))) rfl
  |true=>
   rw[dU]at f1;(refine aT (Az he dU) λks aM qX=> ?_;clear he;subst aM);have:fN c.ds.length (.tup (ks.map K3.pv))=rK ks:=by simp only[fN,dU,zc,sA]
   rw[this];refine fE rfl (bq s0 (cg ((gk rfl).trans f1) (bW (dz ?_)))) rfl;have ht:ai "clause"=some (.tup (ks.map K3.pv)):=(f2 _ (by decide)).trans rfl;rw[bB]at hz;have e2:sI (af "clause") ai σ=some (.lst ((iQ ks).map K3.pv),σ):=by
    refine(bb (aj ht)).trans ((bb (a:=ks.map K3.pv) rfl).trans ((bb (sA ks)).trans ?_));rw[aP hz]
   refine aX ((bp (aV (aj ht))).trans (aP (show(ks.map K3.pv).length≤100000 by rw[bB];exact ao hz (aK rfl)))) e2 (vg (n:=2) (m:=2) (by exact iA _) (by exact iA _) (by decide) ?_);unfold rK;rw[h9,PV.lst.injEq];exact⟨λh=>by rw[h],λh=>(qj (λz z=>vh) h).symm⟩
 ·exact fE rfl (dg (nE (b:=false) (p:= .lst es) rfl rfl) (bW rfl)) rfl
noncomputable def nM:List (List Int)→List (List Int)
 |L=>L.foldl (λps iy=>ps.flatMap λp=>iy.map λv=>p++ [v]) [[]]
noncomputable def b8.b9(c:b8):List (List Int):=c.ds.map vals
def b8.points(c:b8):List (List Int):=nM c.b9
def b8.keeps(c:b8)(p:List Int):Bool:=eW c.t0 (p.getD 0 0) (p.getD 1 0)&&eW c.t1 (p.getD 0 0) (p.getD 1 0)
def b8.answers(c:b8):List (List Int):=c.points.filter c.keeps
theorem ZG{L:List (List Int)}:∀{ps:List (List Int)} {p:List Int},p∈L.foldl (λps iy=>ps.flatMap λp=>iy.map λv=>p++ [v]) ps↔∃q∈ps,∃r,p=q++r∧r.length=L.length∧∀i (h:i<r.length) (h2:i<L.length),r[i]∈L[i]:=by
 induction L with
 |nil=>
  intro ps p;simp only[List.foldl_nil];constructor
  ·intro h;exact⟨p,h,[],by simp,rfl,λi h=>by cases h⟩
  ·rintro⟨q,hq,r,rfl,hr,_⟩;have:r= []:=Jv.mp hr;clear hr;subst this;simpa using hq
 |cons iy L ih=>
  intro ps p;rw[List.foldl_cons,ih];constructor
  ·rintro⟨q,hq,r,rfl,hr,hm⟩;refine aT (wm.mp hq) λq' hq' yj=> ?_;(refine aT (dR.mp yj) λv hv aM=> ?_;clear hq yj;subst aM);refine⟨q',hq',v::r,by simp,by simp[hr],λi h h2=> ?_⟩;cases i with
   |zero=>exact hv
   |succ i=>exact hm i (by simpa using h) (by simpa using h2)
  ·rintro⟨q,hq,r,rfl,hr,hm⟩;cases r with
   |nil=>simp at hr
   |cons v r=>
    refine⟨q++ [v],wm.mpr ⟨q,hq,dR.mpr ⟨v,hm 0 (by simp) (by simp),rfl⟩⟩,r,by simp,by simpa using hr,λi h h2=>hm (i+1) (by simpa using h) (by simpa using h2)⟩
theorem sU{L:List (List Int)}{p:List Int}:p∈nM L↔p.length=L.length∧∀i (h:i<p.length) (h2:i<L.length),p[i]∈L[i]:=by
 unfold nM;rw[ZG];constructor
 ·rintro⟨q,hq,r,rfl,hr,hm⟩;rw[fz]at hq;subst hq;exact⟨by simpa using hr,λi h h2=>hm i (by simpa using h) h2⟩
 ·rintro⟨h1,h2⟩;exact⟨[],.head _,p,rfl,h1,h2⟩
end
def vH(tt:Tl)(ks:List K3)(P:List (List Int)):Bool:=decide (((P.filter λp=>eW tt (p.getD 0 0) (p.getD 1 0)).filter λp=>decide ((ks.filter λl=>lets l.2.1 l.2.2 (p.getD l.1.toNat 0))= []))= [])
theorem Mg{ks:List K3}{L:List (List Int)}(h:i<L.length):(fb ks L)[i]? =some (fG ks i L[i]):=by
 simp only[fb,wi,cF h,k9]
theorem XF{ks:List K3}{L:List (List Int)}(hL:L.length=2∨L.length=3)(hk:∀l∈ks,dQ L.length l):vH tt ks (nM L)=i6 tt ks L:=by
 have h0:0<L.length:=by lia
 have h1:1<L.length:=by lia
 have gd:∀{p:List Int} {i:Nat} (h:i<p.length),p.getD i 0=p[i]:=λ{p i} h=>by rw[eX,cF h];rfl
 have bad:vH tt ks (nM L)=false↔∃p∈nM L,eW tt (p.getD 0 0) (p.getD 1 0)=true∧∀l∈ks,lets l.2.1 l.2.2 (p.getD l.1.toNat 0)=false:=by
  unfold vH;rw[lL,oM];constructor
  ·intro h;simp only[Classical.not_forall]at h;obtain⟨p,hp,h⟩:=h;rw[ib]at hp;refine⟨p,hp.1,hp.2,?_⟩;simp only[ja,yN,oM]at h;intro l hl;simpa using h l hl
  ·rintro⟨p,hp,B5,hl⟩ h;refine h p (ib.mpr ⟨hp,B5⟩) ?_;rw[h9,oM];intro l iY;rw[hl l iY];decide
 have good:i6 tt ks L=false↔ []∉fb ks L∧∃a∈fG ks 0 L[0],∃b∈fG ks 1 L[1],eW tt a b=true:=by
  unfold i6;rw[JO,lL,Bool.not_eq_false'];rw[eX,cF h0,eX,cF h1];simp only[yQ,wq]
 have key:vH tt ks (nM L)=false↔i6 tt ks L=false:=by
  rw[bad,good];constructor
  ·rintro⟨p,hp,pU,hl⟩;refine cM (sU.mp hp) λp1 p2=> ?_;have dJ:∀i (h:i<L.length),p[i]'(ao h (bM p1.symm))∈fG ks i L[i]:=λi h=>by
    refine zX.mpr ⟨p2 i (ao h (bM p1.symm)) h,λl iY e=> ?_⟩;have:=hl l iY;rw[e,J1,gd (ao h (bM p1.symm))]at this;exact this
   refine⟨λhn=> ?_,p[0]'(ao h0 (bM p1.symm)),dJ 0 h0,p[1]'(ao h1 (bM p1.symm)),dJ 1 h1,by rw[gd (ao h0 (bM p1.symm)),gd (ao h1 (bM p1.symm))]at pU;exact pU⟩;obtain⟨i,hi,e⟩:=JN.mp hn;have gv:i<L.length:=by simpa [fb]using hi
   have:=Mg (ks:=ks) gv;rw[cF hi,e]at this;have e2:fG ks i L[i]= []:=(c8 this).symm;have:=dJ i gv;rw[e2]at this;cases this
  ·rintro⟨hn,a,ha,b,hb,pU⟩;have mk:∀p:List Int,p.length=L.length→(∀i (h:i<p.length) (h2:i<L.length),p[i]∈fG ks i L[i])→eW tt (p.getD 0 0) (p.getD 1 0)=true→∃p∈nM L,eW tt (p.getD 0 0) (p.getD 1 0)=true∧∀l∈ks,lets l.2.1 l.2.2 (p.getD l.1.toNat 0)=false:=λp h1 h2 h3=>by
    refine⟨p,sU.mpr ⟨h1,λi h h'=>(zX.mp (h2 i h h')).1⟩,h3,λl hl=> ?_⟩;refine aT (sR (hk l hl)) λi e hi=> ?_;have e1:l.1=(i:Int):=by rw[e]
    have:=(zX.mp (h2 i (ao hi (bM h1.symm)) hi)).2 l hl e1;rw[e1,gd (ao hi (bM h1.symm))];exact this
   rcases hL with hL|hL
   ·refine mk [a,b] (hL▸rfl) (λi h h2=> ?_) pU;have:i=0∨i=1:=by lia
    rcases this with rfl|rfl
    ·exact ha
    ·exact hb
   ·refine bG (T7 _ (λe=>hn (lM ((Mg (ks:=ks) (i:=2) (bM hL.symm)).trans (by rw[e]))):fG ks 2 (L[2]'(bM hL.symm))≠ [])) λx hx=> ?_;refine mk [a,b,x] (hL▸rfl) (λi h h2=> ?_) pU;have:i=0∨i=1∨i=2:=by lia
    rcases this with rfl|rfl|rfl
    ·exact ha
    ·exact hb
    ·exact hx
 cases h:vH tt ks (nM L)with
 |false=>exact(key.mp h).symm
 |true=>
  cases h2:i6 tt ks L with
  |true=>rfl
  |false=>rw[key.mpr h2]at h;(first|exact aQ h|exact dA h|exact cL h)
structure Sp where
 r:PV
 ks:List K3
 p:PV
 nt:PV
noncomputable def Sp.pv(s:Sp):PV:= .tup [s.r,bh s.ks,s.p,s.nt]
noncomputable def I0:Option (List Int)→PV
 |none=> .none
 |some l=> .lst (l.map .int)
noncomputable def kW:Option (List Int)→PV
 |none=> .none
 |some l=> .tup (l.map .int)
def fX(c:b8)(ap:Option (List Int)):List (String×PV):= [("lots",.lst (c.b9.map bf)),("points",.lst (c.points.map bf)),("tolds",.lst [eT c.t0,eT c.t1]),("answers",.lst (c.answers.map bf)),("goal",c.goal),("apart",I0 ap),("seen",.loc 2)]
noncomputable def aH(cells:List Int)(n:Nat):PO:= .cZ [("cells",.lst (cells.map .int)),("spot",.int n)]
noncomputable def r4(N:Nat):PV→Bool
 | .int i=>decide (0≤i∧i<N)
 |_=>false
noncomputable def RF:PV→List PV
 | .tup l=>l
 |_=> []
def l9:PV→List K3
 | .tup l=>(keysOf l).getD []
 |_=> []
def vI(N:Nat):PV→Bool
 | .tup ps=>ps.all (r4 N)
 |_=>false
noncomputable def numOf:PV→Int
 | .int i=>i
 |_=>0
def ox(aW:List Sp)(ps:List PV):List (List K3):=ps.map λp=>(aW.getD (numOf p).toNat ⟨.none,[],.none,.none⟩).ks
noncomputable def lp:PV→Bool
 | .int i=>decide (i=0∨i=1)
 |_=>false
def b8.told(c:b8)(nt:PV):Tl:=if numOf nt=0 then c.t0 else c.t1
noncomputable def kK:List PV→Option (List Int)
 | []=>some []
 | .int i::l=>(kK l).map (i::·)
 |_::_=>none
def tS:PV→List Int
 | .tup l=>(kK l).getD []
 |_=> []
def jB(c:b8):PV→Bool
 | .tup l=>((kK l).map λvs=>decide (vs∈c.answers)).getD false
 |_=>false
noncomputable def mf(c:b8)(vs:List Int)(ks:List K3):Bool:=(decide (c.kind="minimize")&&decide (ks= [(0,"<=",vs.getD 0 0-1)]))||(decide (c.kind="maximize")&&decide (ks= [(0,">=",vs.getD 0 0+1)]))
noncomputable def ki(ap:Option (List Int))(vs:List Int)(ks:List K3):Bool:= !(ks.all λl=>decide (l.2.1="!=")&&decide (l.2.2=vs.getD l.1.toNat 0))|| !(decide (ap=none)||decide (ap=some (ks.map (·.1))))
def wd(c:b8)(ap:Option (List Int))(bl:List (List K3))(aW:List Sp)(r:String)(C Pm nt:PV):String:=
 if fN c.ds.length C=false then"clause"
 else if vI aW.length Pm=false then"premise"
 else if r="nogood" then(if mG (l9 C) (ox aW (RF Pm)) c.b9=true then"" else"nogood")
 else if(RF Pm).isEmpty=false then"premise"
 else if r="strike" then(if lp nt=false then"note" else if i6 (c.told nt) (l9 C) c.b9=true then"" else"strike")
 else if¬(r="better"∨r="seen")then"rule"
 else if jB c nt=false then"answer"
 else if r="better" then(if mf c (tS nt) (l9 C)=true then"" else"better")
 else if c.kind≠"satisfy" then"goal"
 else if ki ap (tS nt) (l9 C)=true then"seen"
 else if l9 C∈bl then"again" else""
def Nt(nt:PV):Prop:=(∃i,nt= .int i)∨(∃b,nt= .bool b)∨(∃s,nt= .str s)∨∃l,nt= .tup l∧l.length≤3∧∀p∈l,(∃i,p= .int i∧i∈nJ)∨∃b,p= .bool b
def Pr(Pm:PV):Prop:=∃ps,(Pm= .tup ps∨Pm= .lst ps)∧ps.length≤100∧∀p∈ps,(∃i,p= .int i)∨∃b,p= .bool b
structure vq(c:b8)(s:Sp):Prop where
 lits:∀l∈s.ks,dQ c.ds.length l
 len:s.ks.length≤4
section
variable{ρ ai:aO}{σ aq τ:ah}{c:b8}{cells:List Int}{n:Nat}{ap:Option (List Int)}{bl:List (List K3)}{aW:List Sp}
theorem lj{x:String}{v:PV}(h:ρ "scene"=some (.loc 1))(hs:σ[1]? =some (.cZ (fX c ap)))(hx:(fX c ap).lookup x=some v):aG (af "scene") (a5 x) ρ σ=some (v,σ):=by
 refine dO (aj h) rfl ?_;have:dp σ (.loc 1)= .loc 1:=by unfold dp;dsimp only;rw[hs]
 unfold fZ;rw[this];dsimp only;rw[hs];exact hx
noncomputable def isInt:PV→Bool
 | .int _=>true
 |_=>false
theorem M0{nt:PV}(h:Nt nt):js [nt] σ=some (.bool (isInt nt),σ):=by
 rcases h with⟨i,rfl⟩|⟨b,rfl⟩|⟨s,rfl⟩|⟨l,rfl,_⟩<;>exact zx _ rfl
theorem D6{p:PV}(h:(∃i,p= .int i)∨∃b,p= .bool b):js [p] σ=some (.bool (isInt p),σ):=by
 rcases h with⟨i,rfl⟩|⟨b,rfl⟩<;>exact zx _ rfl
theorem A6{p:PV}(h:(∃i,p= .int i)∨∃b,p= .bool b)(n:Nat):PV.lt n p=true:=by
 rcases h with⟨i,rfl⟩|⟨b,rfl⟩<;>rfl
theorem EN:∀{l:List PV},(∀p∈l,(∃i,p= .int i)∨∃b,p= .bool b)→∃ds,jZ l=some ds∧PyData.depthAll ds≤0∧(ds= []↔l= [])
 | [],_=>⟨[],rfl,cH _,by decide⟩
 |p::l,h=>by
  refine cY (EN (l:=l) λp hp=>h p (.tail _ ‹_›)) λds h1 h2 z=> ?_;rcases h p (.head _)with⟨i,rfl⟩|⟨b,rfl⟩
  ·exact⟨.int i::ds,bV (sD (PyData.int i::·)) h1,Nat.max_le.mpr ⟨cH 0,h2⟩,⟨nofun,nofun⟩⟩
  ·exact⟨.bool b::ds,bV (sD (PyData.bool b::·)) h1,Nat.max_le.mpr ⟨cH 0,h2⟩,⟨nofun,nofun⟩⟩
theorem OG{l:List PV}{ds:List lV}(h3:ds= []↔l= []){b:Bool}(hb:b=decide (l≠ [])):b= !(PyData.eqvAll ds []):=by
 rw[hb];cases ds with
 |nil=>
  have e:=h3.mp rfl;clear hb h3;subst e;rfl
 |cons d ds=>
  have e:l≠ []:=λe=>by have:=h3.mpr e;cases this
  simp only[e,ne_eq,not_false_eq_true,decide_true];rfl
theorem NR{l:List PV}(h:∀p∈l,(∃i,p= .int i)∨∃b,p= .bool b){b:Bool}(hb:b=decide (l≠ []))(hz:l.length≤100):cA σ (.lst l) (.lst [])=some b:=by
 refine cY (EN h) λds h1 h2 h3=> ?_;show(((jZ l).map wL).bind λx=>(Dq (some (wL [])) λy=>if min x.depth y.depth≤64 then some (lP x y)else none)).map _=_;rw[h1];show(if min (wL ds).depth (wL []).depth≤64 then some (lP (.list ds) (.list []))else none).map _=_;rw[aP (ao (J8 _ _) (show(wL ([]:List lV)).depth≤64 by decide)),k9,OG h3 hb];rfl
theorem D7{l:List PV}(h:∀p∈l,(∃i,p= .int i)∨∃b,p= .bool b){b:Bool}(hb:b=decide (l≠ []))(hz:l.length≤100):cA σ (.tup l) (.tup [])=some b:=by
 refine cY (EN h) λds h1 h2 h3=> ?_;show(((jZ l).map wI).bind λx=>(Dq (some (wI [])) λy=>if min x.depth y.depth≤64 then some (lP x y)else none)).map _=_;rw[h1];show(if min (wI ds).depth (wI []).depth≤64 then some (lP (.tuple ds) (.tuple []))else none).map _=_;rw[aP (ao (J8 _ _) (show(wI ([]:List lV)).depth≤64 by decide)),k9,OG h3 hb];rfl
end
section
variable{ρ ai:aO}{σ aq τ:ah}{c:b8}{cells:List Int}{n:Nat}{ap:Option (List Int)}{bl:List (List K3)}{aW:List Sp}
theorem sV{l:List PV}(h:σ[k]? =some (.list l)):dp σ (.loc k)= .lst l:=by unfold dp;dsimp only;rw[h]
theorem Ap{l:List PV}(h:σ[k]? =some (.list l))(hz:l.length<1000000000):cq [.loc k] σ=some (.int l.length,σ):=by
 unfold cq pW;dsimp only;rw[sV h];exact aP hz
theorem Mh{ps:List PV}{t2:CB}{w:List PV→ah→Option (PV×ah)}(hw:w=js){N:Nat}{Pm:PV}(hP:∃ps,(Pm= .tup ps∨Pm= .lst ps)∧ps.length≤100∧∀p∈ps,(∃i,p= .int i)∨∃b,p= .bool b)(h1:ρ "premises"=some Pm)
 (gG:∀(i:Int) (l:List PV),t2 ((ρ.drop [".0","k"]).set "k" (.int i)) (σ++ [.list l])=some (!decide (0≤i∧i<N),σ++ [.list l])):
 dh [FD,(aJ cA (runC false [".0","k"] (bE (af "premises")) (a8 "k") (dh [(bY (cB (aN w [(af "k")]))),t2]) (λk=>bK (af "k") k) bQ) (dc []))] ρ σ=some (!vI N Pm,σ):=by
 subst hw;refine cY hP λps hP hz hp=> ?_;rcases hP with rfl|rfl
 ·refine(df (nE (b:=true) h1 rfl)).trans ?_;have hc:=jL (ρ:=ρ) (σ:=σ) (x:="k") (it:=bE (af "premises")) (cv:=dh [(bY (cB (aN js [(af "k")]))),t2]) (e:=af "k") ps (λp=>p) (λp=>p) (λp=> !r4 N p) (dq (l:=ps.map λp=>p) (aj h1) (by rw[zg];rfl)) (ao hz (aK rfl)) (λp hm l=>by
   have hk:((ρ.drop [".0","k"]).set "k" p) "k"=some p:=rfl;have h0:bY (cB (aN js [(af "k")])) ((ρ.drop [".0","k"]).set "k" p) (σ++ [.list l])=some (!isInt p,σ++ [.list l]):=fj (dn ((bp (aV (aj hk))).trans (D6 (hp p hm))));clear hk;rcases hp p hm with⟨i,rfl⟩|⟨b,rfl⟩
   ·refine(df h0).trans ?_;have h2:=gG i l;show _=some (!decide (0≤i∧i<N),_);cases h: !decide (0≤i∧i<N)with
    |true=>rw[h]at h2;exact dG h2
    |false=>rw[h]at h2;exact(df h2).trans rfl
   ·exact dG h0) (λz z z z=>rfl) λp hm z=>A6 (hp p hm) _
  rw[zg]at hc;have iW:=aX (f:=cA) (b:=dc []) (y:= .lst []) hc rfl (NR (λp hm=>hp p (ib.mp hm).1) rfl (ao (p8 ..) hz));have e:decide (ps.filter (λp=> !r4 N p)≠ [])= !vI N (.tup ps):=by
   rw[Ui];cases h:ps.any (λx=> !r4 N x)with
   |false=>rw[lL,yN,oM];exact λx hx=>yO.mp h x hx
   |true=>
    rw[h9];intro hn;refine aT (wq.mp h) λx hx h2=> ?_;exact oM.mp hn x hx h2
  rw[e]at iW;cases h: !vI N (.tup ps)with
  |true=>rw[h]at iW;exact dG iW
  |false=>rw[h]at iW;exact(df iW).trans rfl
 ·exact dG (nE (b:=false) h1 rfl)
theorem LH{s:CE}{sv:PV}(hz:ps.length≤100)(hp:∀p∈ps,r4 aW.length p=true)(h1:ρ "premises"=some (.tup ps))(hs:∀p l,s ((ρ.drop [".0","k"]).set "k" p) (σ++ [.list l])=some (sv,σ++ [.list l]))
 (jW:∀(i:Nat) (x:Sp) (l:List PV),aW[i]? =some x→fZ (σ++ [.list l]) sv (.int i)=some x.pv):
 runC false [".0","k"] (bE (af "premises")) (a8 "k") (λz σ=>some (true,σ)) (λk=>bK (aG (aG s (af "k")) (aw 1)) k) bQ ρ σ=some (.lst ((ox aW ps).map bh),σ):=by
 refine(n6 ps (λp=>p) (λp=>bh (aW.getD (numOf p).toNat ⟨.none,[],.none,.none⟩).ks) (dq (l:=ps.map λp=>p) (aj h1) (by rw[zg];rfl)) (ao hz (aK rfl)) (λp hm l=> ?_) λz z=>xn _ _).trans (by rw[kH];rfl);have h2:=hp p hm;cases p with
 |int i=>
  have h3:0≤i∧i<aW.length:=fQ h2;clear hm h2;obtain⟨j,rfl⟩:∃j:Nat,i=j:=⟨i.toNat,by lia⟩;have hj:j<aW.length:=gg.mp h3.2;have hg:aW[j]? =some aW[j]:=cF hj;have e:aW.getD (numOf (.int (j:Int))).toNat ⟨.none,[],.none,.none⟩=aW[j]:=by
   rw[eX,hg];rfl
  rw[e];exact dH (l:= [aW[j].r,bh aW[j].ks,aW[j].p,aW[j].nt]) (i:=1) (dO (hs _ l) (aj rfl) (jW j _ l hg)) rfl rfl (by decide)
 |_=>(first|exact aQ h2|exact dA h2|exact cL h2)
theorem Mi{x:Sp}(hs:σ[k]? =some (.list (aW.map Sp.pv)))(h:aW[i]? =some x)(hz:aW.length≤1000):fZ σ (.loc k) (.int i)=some x.pv:=by
 have:=(fe.mp h).1;unfold fZ;rw[sV hs];exact rp (by rw[eM,h];rfl) (ao (ao this hz) (aK rfl))
theorem Wy{l:List PV}{x:Sp}(h:aW[i]? =some x)(hz:aW.length≤1000):fZ σ (.lst (aW.map Sp.pv++l)) (.int i)=some x.pv:=by
 have hi:=(fe.mp h).1;exact PH.trans (rp (l:=aW.map Sp.pv++l) (by rw[jn (by rw[bB];exact hi),eM,h];rfl) (ao (ao hi hz) (aK rfl)))
theorem NS(hg:∀s∈aW,vq c s)(hp:∀p∈ps,r4 aW.length p=true):∀ks∈ox aW ps,ks.length≤1000∧∀l∈ks,dQ c.ds.length l:=by
 intro ks qX;(refine aT (dR.mp qX) λp hm aM=> ?_;subst aM);have h2:=hp p hm;cases p with
 |int i=>
  have h3:0≤i∧i<aW.length:=fQ h2;have hj:i.toNat<aW.length:=by lia
  have e:aW.getD (numOf (.int i)).toNat ⟨.none,[],.none,.none⟩=aW[i.toNat]:=by
   rw[eX,cF hj];rfl
  rw[e];have g:=hg aW[i.toNat] (mN hj);exact⟨ao g.len (by decide),g.lits⟩
 |_=>(first|exact aQ h2|exact dA h2|exact cL h2)
end
theorem afo:∀d∈DD,∀e∈DD,(nM [vals d,vals e]).length≤30:=by decide+kernel
theorem afp:∀d∈DD,∀e∈DD,∀f∈DD,(nM [vals d,vals e,vals f]).length≤30:=by decide+kernel
theorem zy{c:b8}(K:c.ok):c.points.length≤30:=by
 have hl:=K.len;have hd:=K.dd;unfold b8.points b8.b9;generalize c.ds=ds at hl hd
 match ds,hl,hd with
 | [d,e],_,hd=>exact afo d (hd d (.head _)).1 e (hd e (by simp)).1
 | [d,e,f],_,hd=>exact afp d (hd d (.head _)).1 e (hd e (by simp)).1 f (hd f (by simp)).1
 | [],hl,_=>simp at hl
 | [_],hl,_=>simp at hl
 |_::_::_::_::_,hl,_=>simp at hl
theorem o9{c:b8}{p:List Int}(h:p∈c.points):p.length=c.ds.length:=by
 have:=(sU.mp h).1;unfold b8.b9 at this;rw[bB]at this;exact this
theorem td{c:b8}(K:c.ok){p:List Int}(h:p.length=c.ds.length):∃l,p=p.getD 0 0::p.getD 1 0::l:=by
 have:=K.len
 match p,h with
 | [],h=>simp at h;lia
 | [_],h=>simp at h;lia
 |a::b::l,_=>exact⟨l,rfl⟩
structure Fw(ρ:aO)(r:String)(C Pm nt:PV):Prop where
 sc:ρ "scene"=some (.loc 1)
 st:ρ "steps"=some (.loc 3)
 ru:ρ "rule"=some (.str r)
 cl:ρ "clause"=some C
 pr:ρ "premises"=some Pm
 no:ρ "note"=some nt
section
abbrev ZH:CS:=SD
end
section
variable{ρ ai:aO}{σ aq τ:ah}{c:b8}{cells:List Int}{n:Nat}{ap:Option (List Int)}{bl:List (List K3)}{aW:List Sp}{r:String}{C Pm nt:PV}
theorem XG(hn:Nt nt)(h:ρ "note"=some nt):dh [(bY FI),(aJ ej (af "note") tP)] ρ σ=some (!lp nt,σ):=by
 have h0:bY FI ρ σ=some (!isInt nt,σ):=fj (dn ((bp (aV (aj h))).trans (M0 hn)));rcases hn with⟨i,rfl⟩|⟨b,rfl⟩|⟨s,rfl⟩|⟨l,rfl,_⟩
 ·refine(df h0).trans ?_;have h1:aJ ej (af "note") tP ρ σ=some (!lp (.int i),σ):=aX (aj h) rfl (wQ (n:=0) (m:=0) rfl rfl (by decide) (by show(!decide (i=0∨i=1))=true↔PV.int i∉ [PV.int 0,PV.int 1];simp));cases h2: !lp (.int i)with
  |true=>rw[h2]at h1;exact dG h1
  |false=>rw[h2]at h1;exact(df h1).trans rfl
 ·exact dG h0
 ·exact dG h0
 ·exact dG h0
theorem M1(h:lp nt=true):∃i:Nat,nt= .int i∧i<2∧ [eT c.t0,eT c.t1][i]? =some (eT (c.told nt)):=by
 cases nt with
 |int i=>
  have h2:i=0∨i=1:=fQ h;clear h;rcases h2 with rfl|rfl
  ·exact⟨0,rfl,by decide,rfl⟩
  ·exact⟨1,rfl,by decide,rfl⟩
 |_=>(first|exact aQ h|exact dA h|exact cL h)
theorem Wz(K:c.ok)(hs:σ[1]? =some (.cZ (fX c ap))){ks:List K3}(hk:∀l∈ks,dQ c.ds.length l)(hz:ks.length≤4)(F:Fw ρ r (bh ks) Pm nt)(hn:Nt nt):
 Rt ZH ρ σ (.str (if lp nt=false then"note" else if i6 (c.told nt) ks c.b9=true then"" else"strike")) σ:=by
 have t0:=XG (σ:=σ) hn F.no;cases ji:lp nt with
 |false=>
  rw[ji]at t0;exact dg t0 (bW rfl)
 |true=>
  rw[ji]at t0;(refine cY (M1 (c:=c) ji) λi aM hi I2=> ?_;clear hn ji;subst aM);have i0:=zy K;refine bq t0 ?_;have ad5:runC false [".0","point"] (bE rH) (a8 "point") Pn (λk=>bK (af "point") k) bQ ρ σ=
   some (.lst ((c.points.filter λp=>eW (c.told (.int i)) (p.getD 0 0) (p.getD 1 0)).map bf),σ):=by
   refine jL c.points bf bf _ (dq (lj F.sc hs rfl) rfl) (ao i0 (aK rfl)) (λp hp l=> ?_) (λz z z z=>rfl) λz z z=>va _ _;have g1:((ρ.drop [".0","point"]).set "point" (bf p)) "scene"=some (.loc 1):=F.sc;have g2:((ρ.drop [".0","point"]).set "point" (bf p)) "note"=some (.int i):=F.no;refine bG (td K (o9 hp)) λq hq=> ?_;refine dn ((bp (bC (gA (i:=i) (lj g1 (fB hs _) rfl) (aj g2) I2 (ao hi (aK rfl))) (aV (aj rfl)))).trans ?_);have:=NH (σ:=σ++ [.list l]) (c.told (.int i)) (a:=p.getD 0 0) (b:=p.getD 1 0) (q.map .int);have e:bf p= .lst (.int (p.getD 0 0):: .int (p.getD 1 0)::q.map .int):=by
    conv=>lhs;rw[hq]
    rfl
   rw[e];exact this
  have jW:∀p∈(c.points.filter λp=>eW (c.told (.int i)) (p.getD 0 0) (p.getD 1 0)),p.length=c.ds.length:=λp hp=>o9 (ib.mp hp).1;have bJ:=p8 (λp=>eW (c.told (.int i)) (p.getD 0 0) (p.getD 1 0)) c.points;have heq:=XF (tt:=c.told (.int i)) (ks:=ks) (L:=c.b9) (by unfold b8.b9;rw[bB];exact K.len) (by unfold b8.b9;rw[bB];exact hk);unfold vH at heq;rw[show nM c.b9=c.points from rfl]at heq;generalize(c.points.filter λp=>eW (c.told (.int i)) (p.getD 0 0) (p.getD 1 0))=kept at*;refine cg (cf ad5) ?_;generalize aZ:ρ.set "kept" (.lst (kept.map bf))=aA;have g1:aA "clause"=some (bh ks):=by rw[←aZ];exact F.cl
  have afq:runC false [".0","p"] (bE (af "kept")) (a8 "p") Q0 (λk=>bK (af "p") k) bQ aA σ=
   some (.lst ((kept.filter λp=>decide ((ks.filter λl=>lets l.2.1 l.2.2 (p.getD l.1.toNat 0))= [])).map bf),σ):=by
   refine jL kept bf bf _ (dq (aj (aZ▸rfl:aA "kept"=some (.lst (kept.map bf)))) rfl) (ao (ao bJ i0) (aK rfl)) (λp hp l=> ?_) (λz z z z=>rfl) λz z z=>va _ _;have q1:((aA.drop [".0","p"]).set "p" (bf p)) "clause"=some (bh ks):=g1;have q2:((aA.drop [".0","p"]).set "p" (bf p)) "p"=some (bf p):=rfl;generalize((aA.drop [".0","p"]).set "p" (bf p))=bL at q1 q2;have inner:runC false [".0","one"] (bE (af "clause")) (a8 "one") Po (λk=>bK (af "one") k) bQ bL (σ++ [.list l])=some (.lst ((ks.filter λl=>lets l.2.1 l.2.2 (p.getD l.1.toNat 0)).map K3.pv),σ++ [.list l]):=by
    refine jL ks K3.pv K3.pv _ (dq (aj q1) rfl) (ao hz (aK rfl)) (λx hx l'=> ?_) (λz z z z=>rfl) λz z z=>rfl;refine aT (sR (hk x hx)) λj e hj=> ?_;have e1:x.1=(j:Int):=by rw[e]
    have w1:((bL.drop [".0","one"]).set "one" x.pv) "one"=some x.pv:=rfl;have w2:((bL.drop [".0","one"]).set "one" x.pv) "p"=some (bf p):=q2;have qD:p[j]? =some (p.getD x.1.toNat 0):=by rw[e1,eX,cF ((jW p hp)▸hj)];rfl
    exact dn ((bp (bC (aj w1) (aV (gA (i:=j) (aj w2) (Bw e1 w1) (by rw[eM,qD];rfl) (by have:=K.len;have:=jW p hp;lia))))).trans (ED (hk x hx).2.1 _))
   exact aX inner rfl (sJ (iA _) (by decide) (by rw[rg];simp only[q8]))
  have iW:aJ bA _ (dc []) aA σ=some (i6 (c.told (.int i)) ks c.b9,σ):=aX (f:=bA) afq rfl (sJ (n:=1) (kg.mpr λp hp=>by obtain⟨x,_,rfl⟩:=dR.mp hp;exact sS x) (by decide) (by rw[←heq];simp only[q8]));refine bW ?_;cases h:i6 (c.told (.int i)) ks c.b9 with
  |true=>rw[h]at iW;exact(iJ iW).trans rfl
  |false=>rw[h]at iW;exact(gC iW).trans rfl
end
theorem Dn:∀{l:List PV} {vs:List Int},kK l=some vs→l=vs.map .int
 | [],_,h=>by cases h;rfl
 | .int i::l,vs,h=>by
  (refine iX h λws h1 aL=> ?_;clear h;subst aL);rw[Dn h1];rfl
 | .none::_,_,h=>by cases h
 | .bool _::_,_,h=>by cases h
 | .str _::_,_,h=>by cases h
 | .tup _::_,_,h=>by cases h
 | .lst _::_,_,h=>by cases h
 | .d7 _ _::_,_,h=>by cases h
 | .loc _::_,_,h=>by cases h
theorem WA:∀(vs:List Int),kK (vs.map .int)=some vs:=by
 intro x0
 induction x0 with
 |nil=>exact rfl
 |cons i vs ih=>
  show(kK (vs.map .int)).map _=_;rw[ih];rfl
theorem Lj:∀{l:List PV},kK l=none→l.filter (λp=> !isInt p)≠ []
 | .int i::l,h=>by
  have:kK l=none:=Option.map_eq_none_iff.mp h;exact λe=>Lj this e
 | [],h=>by cases h
 | .none::_,_=>nofun
 | .bool _::_,_=>nofun
 | .str _::_,_=>nofun
 | .tup _::_,_=>nofun
 | .lst _::_,_=>nofun
 | .d7 _ _::_,_=>nofun
 | .loc _::_,_=>nofun
theorem wJ{c:b8}{vs:List Int}(h:vs∈c.answers):vs∈c.points:=(ib.mp h).1
section
abbrev afr:CB:=dh [(bY FP),Q6,(aJ ej (aN jT [(af "note")]) vA)]
abbrev ZI:CS:=Q4
abbrev acY:CS:=Q3
end
section
variable{ρ ai:aO}{σ aq τ:ah}{c:b8}{cells:List Int}{n:Nat}{ap:Option (List Int)}{bl:List (List K3)}{aW:List Sp}{r:String}{C Pm nt:PV}
theorem abj(hs:σ[1]? =some (.cZ (fX c ap)))(F:Fw ρ r C Pm nt)(hn:Nt nt):afr ρ σ=some (!jB c nt,σ):=by
 have it:∀{b:Bool},qA "tuple" nt=some b→bY FP ρ σ=some (!b,σ):=λh=>nE F.no h;rcases hn with⟨i,rfl⟩|⟨b,rfl⟩|⟨s,rfl⟩|⟨l,rfl,hz,hl⟩
 ·exact dG (it (b:=false) rfl)
 ·exact dG (it (b:=false) rfl)
 ·exact dG (it (b:=false) rfl)
 ·refine(df (it (b:=true) rfl)).trans ?_;have B6:∀p∈l,(∃i,p= .int i)∨∃b,p= .bool b:=λp hp=>by
   rcases hl p hp with⟨i,h,_⟩|h
   ·exact .inl ⟨i,h⟩
   ·exact .inr h
  have hc:=jL (ρ:=ρ) (σ:=σ) (x:="v") (it:=bE (af "note")) (cv:=bY (cB (aN rh [(af "v")]))) (e:=af "v") l (λp=>p) (λp=>p) (λp=> !isInt p) (dq (l:=l.map λp=>p) (aj F.no) (by rw[zg];rfl)) (ao hz (aK rfl)) (λp hm x=>by
   exact fj (dn ((bp (aV (aj rfl))).trans (D6 (B6 p hm))))) (λz z z z=>rfl) λp hm z=>A6 (B6 p hm) _
  rw[zg]at hc;have iW:=aX (f:=cA) (b:=dc []) (y:= .lst []) hc rfl (NR (λp hm=>B6 p (ib.mp hm).1) rfl (ao (p8 ..) (ao hz (aK rfl))));cases h:kK l with
  |none=>
   rw[bN (Lj h)]at iW;have:jB c (.tup l)=false:=by show((kK l).map _).getD false=_;rw[h];rfl
   rw[this];exact dG iW
  |some vs=>
   have e:=Dn h;clear it hl B6 hc;subst e;have hf:(vs.map PV.int).filter (λp=> !isInt p)= []:=by
    rw[oM];intro p hp;(refine aT (dR.mp hp) λx z aM=> ?_;clear hp;subst aM);exact nofun
   rw[hf]at iW;refine(df iW).trans ?_;have h3:aJ ej (aN jT [(af "note")]) vA ρ σ=some (!jB c (.tup (vs.map .int)),σ):=by
    refine aX (x:=bf vs) ((bp (aV (aj F.no))).trans (aP (show(vs.map PV.int).length≤100000 by exact ao hz (aK rfl)))) (lj F.sc hs rfl) (DM (n:=1) (m:=1) (l:=c.answers.map bf) rfl (sS vs) (kg.mpr λp hp=>by obtain⟨x,_,rfl⟩:=dR.mp hp;exact sS x) (by decide) ?_);have ha:jB c (.tup (vs.map .int))=decide (vs∈c.answers):=by show((kK _).map _).getD false=_;rw[h];rfl
    rw[ha];simp only[rf,lL,dR,not_exists,not_and];exact⟨λh x hx e=>h (by rw[←D2 e];exact hx),λh hv=>h vs hv rfl⟩
   cases h4: !jB c (.tup (vs.map .int))with
   |true=>rw[h4]at h3;exact dG h3
   |false=>rw[h4]at h3;exact(df h3).trans rfl
theorem AB(h:jB c nt=true):∃vs,nt= .tup (vs.map .int)∧vs∈c.answers∧tS nt=vs:=by
 cases nt with
 |tup l=>
  replace h:(((kK l).map λvs=>decide (vs∈c.answers)).getD false)=true:=h;cases h2:kK l with
  |none=>rw[h2]at h;(first|exact aQ h|exact dA h|exact cL h)
  |some vs=>
   rw[h2]at h;exact⟨vs,by rw[Dn h2],fQ h,by show(kK l).getD []=_;rw[h2];rfl⟩
 |_=>(first|exact aQ h|exact dA h|exact cL h)
theorem WB(K:c.ok){ks:List K3}{vs:List Int}(F:Fw ρ r (bh ks) Pm (.tup (vs.map .int)))(hv:vs.length=c.ds.length)(hk:ρ "kind"=some (.str c.kind))(hx:ρ "x"=some c.gx):
 ∃τ,Rt ZI ρ σ (.str (if mf c vs ks=true then"" else"better")) (σ++τ):=by
 refine bG (td K hv) λq hq=> ?_;have lK:vs.map PV.int= .int (vs.getD 0 0):: .int (vs.getD 1 0)::q.map .int:=by
  conv=>lhs;rw[hq]
  rfl
 have GW:∀{τ:ah},aG (af "note") (aw 0) ρ τ=some (.int (vs.getD 0 0),τ):=λ{τ}=>dH (i:=0) (aj (F.no.trans (by rw[lK]))) rfl rfl (by decide);have qY:mf c vs ks=((decide (c.kind="minimize")&&decide (ks= [(0,"<=",vs.getD 0 0-1)]))||(decide (c.kind="maximize")&&decide (ks= [(0,">=",vs.getD 0 0+1)]))):=rfl;generalize vs.getD 0 0=v0 at GW qY;refine⟨[.cZ [("minimize",.tup [.tup [c.gx,.str "<=",.int (v0-1)]]),("maximize",.tup [.tup [c.gx,.str ">=",.int (v0+1)]])]],?_⟩;have s1:vk [("minimize",(bg [FK])),("maximize",(bg [Bq]))] ρ σ=some (.loc σ.length,σ++ [.cZ [("minimize",.tup [.tup [c.gx,.str "<=",.int (v0-1)]]),("maximize",.tup [.tup [c.gx,.str ">=",.int (v0+1)]])]]):=by
  have e1:∀{τ:ah},bg [FK] ρ τ=some (.tup [.tup [c.gx,.str "<=",.int (v0-1)]],τ):=λ{τ}=>d3 (aV (d3 (bC (aj hx) (bC rfl (aV ((da GW rfl).trans rfl))))));have e2:∀{τ:ah},bg [Bq] ρ τ=some (.tup [.tup [c.gx,.str ">=",.int (v0+1)]],τ):=λ{τ}=>d3 (aV (d3 (bC (aj hx) (bC rfl (aV ((da GW rfl).trans rfl))))));have e3:∀{τ:ah},ua [("maximize",(bg [Bq]))] ρ τ=some ([("maximize",.tup [.tup [c.gx,.str ">=",.int (v0+1)]])],τ):=(bb e2).trans rfl;refine(bb ((bb e1).trans (bb e3))).trans ?_;dsimp only;rw[fh];rw[iD]
 refine cg (cf s1) ?_;have hd:(σ++ [PO.cZ [("minimize",.tup [.tup [c.gx,.str "<=",.int (v0-1)]]),("maximize",.tup [.tup [c.gx,.str ">=",.int (v0+1)]])]])[σ.length]? =some (.cZ [("minimize",.tup [.tup [c.gx,.str "<=",.int (v0-1)]]),("maximize",.tup [.tup [c.gx,.str ">=",.int (v0+1)]])]):=fh _ _ _;generalize σ++ [PO.cZ [("minimize",.tup [.tup [c.gx,.str "<=",.int (v0-1)]]),("maximize",.tup [.tup [c.gx,.str ">=",.int (v0+1)]])]]=bj at hd;generalize aZ:ρ.set "due" (.loc σ.length)=aA;have g1:aA "kind"=some (.str c.kind):=by rw[←aZ];exact hk
 have g2:aA "due"=some (.loc σ.length):=by rw[←aZ];rfl
 have g3:aA "clause"=some (bh ks):=by rw[←aZ];exact F.cl
 have dr:dp bj (.loc σ.length)= .loc σ.length:=by unfold dp;dsimp only;rw[hd]
 have t1:∀{b:Bool},(sx c.kind [("minimize",PV.tup [.tup [c.gx,.str "<=",.int (v0-1)]]),("maximize",.tup [.tup [c.gx,.str ">=",.int (v0+1)]])]).isSome=b→aJ di (af "kind") (af "due") aA bj=some (b,bj):=λh=>by
  refine aX (aj g1) (aj g2) ?_;unfold di;rw[dr];dsimp only;rw[hd];exact bV some h
 have t2:∀{s:String} {v:Int},sx c.kind [("minimize",PV.tup [.tup [c.gx,.str "<=",.int (v0-1)]]),("maximize",.tup [.tup [c.gx,.str ">=",.int (v0+1)]])]=some (bh [(0,s,v)])→aJ bA (af "clause") (aG (af "due") (af "kind")) aA bj=some (decide (ks= [(0,s,v)]),bj):=λ{s v} h=>by
  refine aX (y:=bh [(0,s,v)]) (aj g3) (dO (aj g2) (aj g1) ?_) (vg (n:=2) (m:=2) (by exact iA _) (by exact iA _) (by decide) ?_)
  ·unfold fZ;rw[dr];dsimp only;rw[hd];exact h
  ·rw[h9];exact⟨λh=>by rw[h],λh=>qj (λz z=>vh) (PV.tup.inj h)⟩
 refine bW ?_;rcases K.goal with⟨fJ,hg⟩|⟨fJ|fJ,hg⟩
 ·have:mf c vs ks=false:=by rw[qY,fJ];rfl
  rw[this];exact(gC (fY (t1 (by rw[fJ];rfl)))).trans rfl
 ·have hb:mf c vs ks=decide (ks= [(0,"<=",v0-1)]):=by
   rw[qY,fJ];show(true&&_||false&&_)=_;rw[zc,uB,KG]
  rw[hb];have h2:=t2 (s:="<=") (v:=v0-1) (by rw[fJ,hg];rfl);cases h:decide (ks= [(0,"<=",v0-1)])with
  |true=>rw[h]at h2;exact(iJ ((eJ (t1 (by rw[fJ];rfl))).trans ((eJ h2).trans rfl))).trans rfl
  |false=>rw[h]at h2;exact(gC ((eJ (t1 (by rw[fJ];rfl))).trans (fY h2))).trans rfl
 ·have hb:mf c vs ks=decide (ks= [(0,">=",v0+1)]):=by
   rw[qY,fJ];show(false&&_||true&&_)=_;rw[zc,uB,y9]
  rw[hb];have h2:=t2 (s:=">=") (v:=v0+1) (by rw[fJ,hg];rfl);cases h:decide (ks= [(0,">=",v0+1)])with
  |true=>rw[h]at h2;exact(iJ ((eJ (t1 (by rw[fJ];rfl))).trans ((eJ h2).trans rfl))).trans rfl
  |false=>rw[h]at h2;exact(gC ((eJ (t1 (by rw[fJ];rfl))).trans (fY h2))).trans rfl
theorem acZ:∀ap:Option (List Int),Pl 1 (I0 ap)=true
 |none=>rfl
 |some l=>sS l
theorem ZJ(K:c.ok)(hs:σ[1]? =some (.cZ (fX c ap)))(hs2:σ[2]? =some (.list (bl.map bh))){ks:List K3}{vs:List Int}(hk:∀l∈ks,dQ c.ds.length l)(hz:ks.length≤4)(F:Fw ρ r (bh ks) Pm (.tup (vs.map .int)))(hv:vs.length=c.ds.length):
 Rt acY ρ σ (.str (if ki ap vs ks=true then"seen" else if ks∈bl then"again" else"")) σ:=by
 have c1:runC false [".0","one"] (bE (af "clause")) (a8 "one") (λz σ=>some (true,σ)) (λk=>bK (aG (af "one") (aw 0)) k) bQ ρ σ=some (bf (ks.map (·.1)),σ):=by
  refine(n6 ks K3.pv (λl=> .int l.1) (dq (aj F.cl) rfl) (ao hz (aK rfl)) (λx hx l=> ?_) λz z=>rfl).trans (by unfold bf;rw[kH];rfl);exact dH (i:=0) (aj (v:=x.pv) rfl) rfl rfl (by decide)
 refine cg (cf c1) ?_;generalize aZ:ρ.set "apart" (bf (ks.map (·.1)))=aA;have g1:aA "clause"=some (bh ks):=aZ▸F.cl;have g3:aA "scene"=some (.loc 1):=aZ▸F.sc;have c2:runC false [".0","one"] (bE (af "clause")) (a8 "one") Q1 (λk=>bK (af "one") k) bQ aA σ=some (.lst ((ks.filter λl=> !(decide (l.2.1="!=")&&decide (l.2.2=vs.getD l.1.toNat 0))).map K3.pv),σ):=by
  refine jL ks K3.pv K3.pv _ (dq (aj g1) rfl) (ao hz (aK rfl)) (λx hx l=> ?_) (λz z z z=>rfl) λz z z=>rfl;refine aT (sR (hk x hx)) λj e hj=> ?_;have e1:x.1=(j:Int):=by rw[e]
  have w1:((aA.drop [".0","one"]).set "one" x.pv) "one"=some x.pv:=rfl;have qD:vs[j]? =some (vs.getD x.1.toNat 0):=by rw[e1,eX,cF (hv▸hj)];rfl
  have n1:aJ cA (aG (af "one") (aw 1)) (a5 "!=") ((aA.drop [".0","one"]).set "one" x.pv) (σ++ [.list l])=some (!decide (x.2.1="!="),σ++ [.list l]):=aX (x:= .str x.2.1) (dH (i:=1) (aj w1) rfl rfl (by decide)) rfl (ne_str (by rw[←decide_not]));have n2:aJ cA (aG (af "one") (aw 2)) (aG (af "note") (aG (af "one") (aw 0))) ((aA.drop [".0","one"]).set "one" x.pv) (σ++ [.list l])=some (!decide (x.2.2=vs.getD x.1.toNat 0),σ++ [.list l]):=by
   refine aX (x:= .int x.2.2) (dH (i:=2) (aj w1) rfl rfl (by decide)) (dH (i:=j) (aj (aZ▸F.no:aA "note"=some (.tup (vs.map .int)))) (Bw e1 w1) (by rw[eM,qD];rfl) (by have:=K.len;omega)) ?_;unfold cA;rw[gL];rfl
  cases h:decide (x.2.1="!=")with
  |false=>rw[h]at n1;exact dG n1
  |true=>
   rw[h]at n1;refine(df n1).trans ?_;cases h2:decide (x.2.2=vs.getD x.1.toNat 0)with
   |false=>rw[h2]at n2;exact dG n2
   |true=>rw[h2]at n2;exact(df n2).trans rfl
 have n1:=aX (f:=cA) (b:=dc []) (y:= .lst []) c2 rfl (rz (iA _) (by decide) rfl);have e1:decide ((ks.filter λl=> !(decide (l.2.1="!=")&&decide (l.2.2=vs.getD l.1.toNat 0))).map K3.pv≠ [])= !(ks.all λl=>decide (l.2.1="!=")&&decide (l.2.2=vs.getD l.1.toNat 0)):=by
  rw[Ui];cases h:ks.any (λx=> !(decide (x.2.1="!=")&&decide (x.2.2=vs.getD x.1.toNat 0)))with
  |false=>
   rw[lL,yN,q8,oM];exact λx hx=>yO.mp h x hx
  |true=>
   rw[h9];intro hn;refine aT (wq.mp h) λx hx h2=> ?_;exact oM.mp (q8.mp hn) x hx h2
 rw[e1]at n1;have n2:aJ ej (aG (af "scene") (a5 "apart")) (bg [cU,(af "apart")]) aA σ=some (!(decide (ap=none)||decide (ap=some (ks.map (·.1)))),σ):=by
  refine aX (lj g3 hs rfl) (d3 (bC rfl (aV (aj (aZ▸rfl:aA "apart"=some (bf (ks.map (·.1)))))))) (wQ (n:=1) (m:=1) (acZ ap) (by show(Pl 1 _&&true)=true;rw[sS];rfl) (by decide) ?_);rw[rf,JO,lL,lL];cases ap with
  |none=>show _↔PV.none∉_;simp
  |some l=>
   show _↔PV.lst (l.map .int)∉_;simp only[reduceCtorEq,not_false_eq_true,true_and,CK,cG,ff,fg,false_or];exact⟨λh e=>h (D2 e),λh e=>h (by rw[e];rfl)⟩
 have kE:ki ap vs ks=(!(ks.all λl=>decide (l.2.1="!=")&&decide (l.2.2=vs.getD l.1.toNat 0))|| !(decide (ap=none)||decide (ap=some (ks.map (·.1))))):=rfl;have cv:dh [Q2,Pp] aA σ=some (ki ap vs ks,σ):=by
  rw[kE];cases h: !(ks.all λl=>decide (l.2.1="!=")&&decide (l.2.2=vs.getD l.1.toNat 0))with
  |true=>rw[h]at n1;exact dG n1
  |false=>
   rw[h]at n1;refine(df n1).trans ?_;cases h2: !(decide (ap=none)||decide (ap=some (ks.map (·.1))))with
   |true=>rw[h2]at n2;exact dG n2
   |false=>rw[h2]at n2;exact(df n2).trans rfl
 cases hb:ki ap vs ks with
 |true=>rw[hb]at cv;exact dg cv (bW rfl)
 |false=>
  rw[hb]at cv;refine bq cv (bW ?_);have n3:aJ di (af "clause") FJ aA σ=some (decide (ks∈bl),σ):=by
   refine aX (aj g1) (lj (v:= .loc 2) g3 hs rfl) (xk (n:=2) (m:=2) (sV hs2) (by exact iA _) (kg.mpr λp hp=>by obtain⟨x,_,rfl⟩:=dR.mp hp;exact iA _) (by decide) ?_);rw[h9,dR];exact⟨λh=>⟨ks,h,rfl⟩,λ⟨x,h,e⟩=>(qj (λz z=>vh) (PV.tup.inj e))▸h⟩
  by_cases h:ks∈bl
  ·rw[bN h]at n3;rw[aP h];exact(iJ n3).trans rfl
  ·rw[bT h]at n3;rw[aS h];exact(gC n3).trans rfl
end
section
variable{ρ ai:aO}{σ aq τ:ah}{c:b8}{ap:Option (List Int)}{bl:List (List K3)}{aW:List Sp}{r:String}{C Pm nt:PV}
structure qZ(σ:ah)(c:b8)(ap:Option (List Int))(bl:List (List K3))(aW:List Sp):Prop where
 o1:σ[1]? =some (.cZ (fX c ap))
 o2:σ[2]? =some (.list (bl.map bh))
 o3:σ[3]? =some (.list (aW.map Sp.pv))
theorem vb(ks:List K3):l9 (bh ks)=ks:=by
 show(keysOf (ks.map K3.pv)).getD []=ks;rw[sA];rfl
theorem Vq(hc:(∃l,C= .lst l)∨∃l,C= .tup l∧l.length<1000∧l.length≠4):wN [.loc 1,.loc 3,C] σ=some (.str "step",σ):=by
 refine fE rfl (dg ?_ (bW rfl)) rfl;rcases hc with⟨l,rfl⟩|⟨l,rfl,h1,h2⟩
 ·exact dG (nE (b:=false) rfl rfl)
 ·refine(df (nE (b:=true) rfl rfl)).trans (dG (aX ((bp (aV (aj rfl))).trans (ko (ao h1 (aK rfl)))) rfl ?_));unfold cA;rw[gL,bT (by lia)];rfl
theorem WC(K:c.ok)(S:qZ σ c ap bl aW)(hg:∀s∈aW,vq c s)(d8:aW.length≤100)(hC:Cl C)(hP:Pr Pm)(hN:r="strike"∨r="better"∨r="seen"→Nt nt):
 wN [.loc 1,.loc 3,.tup [.str r,C,Pm,nt]] σ=some (.str (wd c ap bl aW r C Pm nt),σ):=by
 generalize gQ:(bX ["scene","steps","step"] [.loc 1,.loc 3,.tup [.str r,C,Pm,nt]] λz=>none)=a9;have g1:a9 "step"=some (.tup [.str r,C,Pm,nt]):=by rw[←gQ];rfl
 have t0:dh [(bY (cB (gN "tuple" (af "step")))),(aJ cA (aN cq [(af "step")]) (aw 4))] a9 σ=some (false,σ):=(df (nE (b:=true) g1 rfl)).trans ((df (aX ((bp (aV (aj g1))).trans (ko (aK rfl))) rfl rfl)).trans rfl);generalize aZ:((((a9.set "rule" (.str r)).set "clause" C).set "premises" Pm).set "note" nt)=aA;have s1:cW (af "step") tJ a9 σ=some (.next,aA,σ):=by rw[←aZ];exact jA (aj g1) rfl
 have F:Fw aA r C Pm nt:=by rw[←aZ,←gQ];exact⟨rfl,rfl,rfl,rfl,rfl,rfl⟩
 have main:∃τ,Rt zt a9 σ (.str (wd c ap bl aW r C Pm nt)) (σ++τ):=by
  have t1:bY HG aA σ=some (!fN c.ds.length C,σ):=fj (dn ((bp (bC (aj F.cl) (aV ((bp (aV (lj F.sc S.o1 rfl))).trans ((qy (by unfold b8.b9;have:=K.len;simp only[bB];omega)).trans (by unfold b8.b9;simp only[bB])))))).trans (Vb hC)));have t2:=Mh (ρ:=aA) (σ:=σ) (ps:= []) (w:=rh) rfl (N:=aW.length) (Pm:=Pm) (t2:=aJ sO (af "k") (aN gz [(aN cq [(af "steps")])])) hP F.pr (λi l=>by
   exact aX (aj (v:= .int i) rfl) ((bp (aV ((λh h2=>(bp (aV (aj h))).trans ((Ap h2 (by rw[bB];exact ao (bH d8 1) (aK rfl))).trans (by rw[bB])):∀{ρ:aO} {σ:ah},ρ "steps"=some (.loc 3)→σ[3]? =some (.list (aW.map Sp.pv))→aN cq [af "steps"] ρ σ=some (.int aW.length,σ)) F.st (fB S.o3 _)))).trans rfl) rfl)
  cases iz:fN c.ds.length C with
  |false=>
   rw[iz]at t1;refine⟨[],?_⟩;have:wd c ap bl aW r C Pm nt="clause":=by unfold wd;rw[aP iz]
   rw[this,gy];exact bq t0 (cg s1 (dg t1 (bW rfl)))
  |true=>
   rw[iz]at t1;(refine l5 (AA hC iz) λks aM hk hz z=> ?_;clear hC;subst aM);cases jm:vI aW.length Pm with
   |false=>
    rw[jm]at t2;refine⟨[],?_⟩;have:wd c ap bl aW r (bh ks) Pm nt="premise":=by unfold wd;rw[aS (by rw[iz];decide),aP jm]
    rw[this,gy];exact bq t0 (cg s1 (bq t1 (dg t2 (bW rfl))))
   |true=>
    rw[jm]at t2;(refine cY hP λps jH mI rY=> ?_;clear hP);rcases jH with rfl|rfl
    ·have dU:∀p∈ps,r4 aW.length p=true:=fU.mp jm;have pre:∀{v:PV} {τ:ah} {a:CS},zt=ak Q7 (ak (cW (af "step") tJ) (ak (bt (bY HG) FH aC)
      (ak Q5 a)))→Rt a aA σ v τ→Rt zt a9 σ v τ:=λe h=>by
      rw[e];exact bq t0 (cg s1 (bq t1 (bq t2 h)))
     have w0:wd c ap bl aW r (bh ks) (.tup ps) nt=(if r="nogood" then(if mG ks (ox aW ps) c.b9=true then"" else"nogood")
      else if ps.isEmpty=false then"premise"
      else if r="strike" then(if lp nt=false then"note" else if i6 (c.told nt) ks c.b9=true then"" else"strike")
      else if¬(r="better"∨r="seen")then"rule"
      else if jB c nt=false then"answer"
      else if r="better" then(if mf c (tS nt) ks=true then"" else"better")
      else if c.kind≠"satisfy" then"goal"
      else if ki ap (tS nt) ks=true then"seen"
      else if ks∈bl then"again" else""):=by
      unfold wd;rw[aS (by rw[iz];decide),aS (by rw[jm];decide),vb];rfl
     rw[w0];by_cases i4:r="nogood"
     ·rw[aP i4];refine⟨[],?_⟩;rw[gy];have hl:=LH (ρ:=aA) (σ:=σ) (s:=af "steps") (sv:= .loc 3) mI dU F.pr (λp l=>by
       exact aj F.st) (λi x l h=>Mi (fB S.o3 _) h (ao d8 (aK rfl)))
      have hf:=VT (σ:=σ) (L:=c.b9) (ks:=ks) (ls:=ox aW ps) ⟨by unfold b8.b9;rw[bB];have:=K.len;lia,λvs hv=>by
       (refine aT (dR.mp hv) λd hd aM=> ?_;clear hv;subst aM);exact ao (pf d (K.dd d hd).1).1 (by decide)⟩ (by unfold b8.b9;rw[bB];exact hk) (by unfold b8.b9;rw[bB];exact NS hg dU)
      have hb:=dn ((bp (bC (lj (x:="lots") F.sc S.o1 rfl) (bC (aj F.cl) (aV hl)))).trans hf);refine pre rfl (dg (cK F.ru (by rw[i4];rfl)) (bW ?_));cases h:mG ks (ox aW ps) c.b9 with
      |true=>rw[h]at hb;exact(iJ hb).trans rfl
      |false=>rw[h]at hb;exact(gC hb).trans rfl
     ·rw[aS i4];have t3:∀{b:Bool},decide (ps≠ [])=b→aJ cA (af "premises") (bg []) aA σ=some (b,σ):=λh=>by
       have:=D7 (σ:=σ) rY h.symm mI;exact aX (aj F.pr) rfl this
      by_cases jH:ps= []
      ·clear mI rY jm dU;subst jH;by_cases i5:r="strike"
       ·rw[aP i5];refine⟨[],?_⟩;rw[gy];exact pre rfl (bq (cK F.ru (bT i4)) (bq (t3 rfl) (dg (cK F.ru (bN i5)) (Wz K S.o1 hk hz F (hN (.inl i5))))))
       ·rw[aS i5];have t4:aJ ej (af "rule") tK aA σ=some (decide (r∉ ["better","seen"]),σ):=aX (aj F.ru) rfl (Mb ["better","seen"] rfl);by_cases nN:r="better"∨r="seen"
        ·rw[aS (λh=>h nN)];rw[bT (by clear hN i4 gQ g1 aZ F w0 i5;rcases nN with rfl|rfl<;>simp)]at t4;have oL:=hN (.inr nN);have t5:=abj (c:=c) (ap:=ap) S.o1 F oL;cases ha:jB c nt with
         |false=>
          rw[ha]at t5;refine⟨[],?_⟩;rw[gy];exact pre rfl (bq (cK F.ru (bT i4)) (bq (t3 rfl) (bq (cK F.ru (bT i5)) (bq t4 (dg t5 (bW rfl))))))
         |true=>
          rw[ha]at t5;(refine cY (AB ha) λvs aM uf I3=> ?_;clear hN gQ g1 aZ w0 oL ha;subst aM);rw[I3];have yu:=o9 (wJ uf);have sg:cW xX Fy aA σ=some (.next,(aA.set "kind" (.str c.kind)).set "x" c.gx,σ):=jA (v:=c.goal) (lj F.sc S.o1 rfl) rfl;generalize et:(aA.set "kind" (.str c.kind)).set "x" c.gx=bL at sg;have F2:Fw bL r (bh ks) (.tup []) (.tup (vs.map .int)):=by rw[←et];exact⟨F.sc,F.st,F.ru,F.cl,F.pr,F.no⟩
          have k1:bL "kind"=some (.str c.kind):=et▸rfl;by_cases nO:r="better"
          ·rw[aP nO];refine bG (WB (σ:=σ) K F2 yu k1 (et▸rfl)) λτ hb=> ?_;exact⟨τ,pre rfl (bq (cK F.ru (bT i4)) (bq (t3 rfl) (bq (cK F.ru (bT i5)) (bq t4 (bq t5 (cg sg (dg (cK F2.ru (bN nO)) hb)))))))⟩
          ·rw[aS nO];refine⟨[],?_⟩;rw[gy];have t6:aJ cA (af "kind") (a5 "satisfy") bL σ=some (decide (c.kind≠"satisfy"),σ):=aX (aj k1) rfl (ne_str rfl);by_cases oE:c.kind="satisfy"
           ·rw[aS (λh=>h oE)];rw[bT (λh=>h oE)]at t6;exact pre rfl (bq (cK F.ru (bT i4)) (bq (t3 rfl) (bq (cK F.ru (bT i5)) (bq t4 (bq t5 (cg sg (bq (cK F2.ru (bT nO)) (bq t6 (ZJ K S.o1 S.o2 hk hz F2 yu)))))))))
           ·rw[aP oE];rw[bN oE]at t6;exact pre rfl (bq (cK F.ru (bT i4)) (bq (t3 rfl) (bq (cK F.ru (bT i5)) (bq t4 (bq t5 (cg sg (bq (cK F2.ru (bT nO)) (dg t6 (bW rfl)))))))))
        ·rw[aP nN];refine⟨[],?_⟩;rw[gy];rw[bN (by simpa using nN)]at t4;exact pre rfl (bq (cK F.ru (bT i4)) (bq (t3 rfl) (bq (cK F.ru (bT i5)) (dg t4 (bW rfl)))))
      ·rw[aP (by cases ps with|nil=>exact bP rfl jH|cons=>rfl)];refine⟨[],?_⟩;rw[gy];exact pre rfl (bq (cK F.ru (bT i4)) (dg (t3 (bN jH)) (bW rfl)))
    ·(first|exact aQ jm|exact dA jm|exact cL jm)
 (refine bG main λτ h=> ?_;clear main);exact s9 (τ:=τ) rfl (gQ▸h) rfl
end
section
variable{ρ ai:aO}{σ aq τ:ah}{c:b8}{ap:Option (List Int)}{bl:List (List K3)}{aW:List Sp}{r:String}{C Pm nt:PV}{k j a:Nat}{ta:PV}
theorem WD(K:c.ok)(hc:σ[k]? =some (.inst 539 (jY c j ta a)))(hj:σ[j]? =some (.inst 463 (lU c.ds))){ks:List K3}(hk:∀l∈ks,dQ c.ds.length l)(hz:ks.length≤4)(hn:Nt nt):
 Ca [.loc k,bh ks,nt] σ=some (.str (if lp nt=false then"note" else if i6 (c.told nt) ks c.b9=true then"" else"strike"),σ):=by
 refine fE rfl ?_ rfl;generalize aZ:(bX ["self","clause","note"] [.loc k,bh ks,nt] λz=>none)=a9;have g1:a9 "self"=some (.loc k):=aZ▸rfl;have g2:a9 "clause"=some (bh ks):=aZ▸rfl;have g3:a9 "note"=some nt:=aZ▸rfl;have h0:bY Fv a9 σ=some (!isInt nt,σ):=fj (dn ((bp (aV (aj g3))).trans (M0 hn)));have tl:ij (af "self") 539 "tolds" a9 σ=some (.lst [eT c.t0,eT c.t1],σ):=jR (aj g1) hc rfl;have cv:dh [(bY Fv),(bY HC)] a9 σ=some (!lp nt,σ):=by
  clear aZ;rcases hn with⟨i,rfl⟩|⟨b,rfl⟩|⟨s,rfl⟩|⟨l,rfl,_⟩
  ·refine(df h0).trans ?_;have h1:bY HC a9 σ=some (!(decide (0≤i)&&decide (i<2)),σ):=fj (EM rfl (aj g3) rfl ((bp (aV tl)).trans (qy (l:= [eT c.t0,eT c.t1]) (aK rfl)):aN cq [vz] a9 σ=some (.int 2,σ)) rfl);have e:(decide (0≤i)&&decide (i<2))=lp (.int i):=by
    rw[←Kn];show decide _=decide _;rw[rg];lia
   rw[e]at h1;cases h2: !lp (.int i)with
   |true=>rw[h2]at h1;exact dG h1
   |false=>rw[h2]at h1;exact(df h1).trans rfl
  ·exact dG h0
  ·exact dG h0
  ·exact dG h0
 cases ji:lp nt with
 |false=>rw[ji]at cv;exact dg cv (bW rfl)
 |true=>
  rw[ji]at cv;(refine cY (M1 (c:=c) ji) λi aM hi I2=> ?_;clear hn aZ h0 ji;subst aM);have iz:ue (c.told (.int i)):=by
   unfold b8.told;split
   ·exact K.k0
   ·exact K.k1
  have hm:fi (ij (af "self") 539 "judge") 463 "follows" yC [(aG vz (af "note")),(af "clause")] a9 σ=some (.bool (i6 (c.told (.int i)) ks c.b9),σ):=(jx (jR (v:= .loc j) (aj g1) hc rfl) hj rfl (bC (gA (i:=i) tl (aj g3) I2 (ao hi (aK rfl))) (aV (aj g2)))).trans (XE (σ:=σ) (tt:=c.told (.int i)) iz hj (by have:=K.len;lia) (by have:=K.len;omega) K.dd hk (ao hz (aK rfl)));refine bq cv ?_;have:Rt QN a9 σ (.str (if i6 (c.told (.int i)) ks c.b9=true then"" else"strike")) σ:=by
   refine bW ?_;cases h:i6 (c.told (.int i)) ks c.b9 with
   |true=>rw[h]at hm;exact(iJ (dn hm)).trans rfl
   |false=>rw[h]at hm;exact(gC (dn hm)).trans rfl
  exact this.elim λai e=>⟨ai,bS e⟩
theorem abk{body:CS}{good:Nat→Bool}:∀(xs:List Nat),(∀i∈xs,∀ai:aO,(∀y,y≠"x"→ai y=ρ y)→ai "x"=some (.int i)→body ai σ=some (if good i=true then .next else .ret (.bool false),ai,σ))→∀ai:aO,(∀y,y≠"x"→ai y=ρ y)→
 ∃kA,eU false 0 (a8 "x") body (xs.map λi:Nat=>PV.int i) ai σ=some (if xs.all good=true then .next else .ret (.bool false),kA,σ)∧∀y,y≠"x"→kA y=ρ y:=by
 intro x0
 induction x0 with
 |nil=>exact λz ai h=>⟨ai,rfl,h⟩
 |cons i xs ih=>
  intro hs ai h;have l8:∀y,y≠"x"→(ai.set "x" (.int i)) y=ρ y:=λy hy=>by unfold aO.set;rw[aS hy];exact h y hy
  have b1:=hs i (.head _) (ai.set "x" (.int i)) l8 rfl;rw[wC];cases hg:good i with
  |false=>rw[hg]at b1;exact⟨_,pd (aA:=ai.set "x" (.int i)) rfl b1,l8⟩
  |true=>
   rw[hg]at b1;refine aT (ih (λj hj=>hs j (.tail _ ‹_›)) (ai.set "x" (.int i)) l8) λkA f1 f2=> ?_;exact⟨kA,(ie (aA:=ai.set "x" (.int i)) rfl b1).trans f1,f2⟩
noncomputable def pk(ds:List Dm)(l:List PV)(i:Nat):Bool:=match l.getD i .none with
 | .int v=>decide (v∈vals (ds.getD i []))
 |_=>false
theorem ad6{p q:Int}{l:List PV}{n:Nat}(hl:PV.lt n (.tup (.int p:: .int q::l))=true)(hn:n=σ.length):r3 σ (.tup (.int p:: .int q::l)) p q:=by
 subst hn;exact⟨hl,λτ=>⟨rp (i:=0) rfl (by decide),rp (i:=1) rfl (by decide)⟩⟩
set_option tactic.hygienic true in
theorem ZK{c:b8}{l:List PV}(hl:l.length=c.ds.length):(dK l.length).all (pk c.ds l)=true↔∃vs:List Int,l=vs.map PV.int∧vs∈c.points:=by
 rw[fU];constructor
 ·intro h;have h1:∃vs:List Int,l=vs.map PV.int:=by
   refine⟨l.map numOf,?_⟩;rw[kH];refine uu λi=> ?_;rw[eM];by_cases hi:i<l.length
   ·have:=h i (gW.mpr hi);unfold pk at this;rw[eX,cF hi,yQ]at this;rw[cF hi];split at this
    ·rename_i v e;rw[e];rfl
    ·(first|exact aQ this|exact dA this|exact cL this)
   ·rw[p7 (eP.mp hi)];rfl
  (refine bG h1 λvs aM=> ?_;clear h1;subst aM);refine⟨vs,rfl,sU.mpr ⟨by unfold b8.b9;rw[bB]at hl⊢;exact hl,λi hi h2=> ?_⟩⟩;have:=h i (gW.mpr (by rw[bB];exact hi));unfold pk at this;rw[eX,eM,cF hi]at this;have h3:i<c.ds.length:=by unfold b8.b9 at h2;rw[bB]at h2;exact h2
  rw[eX,cF h3]at this;have e:c.b9[i]=vals c.ds[i]:=yS vals;rw[e];exact(fQ this:vs[i]∈vals c.ds[i])
 ·rintro⟨vs,rfl,hv⟩ i hi;have gv:i<vs.length:=by have:=gW.mp hi;rw[bB]at this;exact this
  refine cM (sU.mp hv) λp1 p2=> ?_;have h2:i<c.b9.length:=ao gv (bM p1);have h3:i<c.ds.length:=by unfold b8.b9 at h2;rw[bB]at h2;exact h2
  unfold pk;rw[eX,eM,cF gv,eX,cF h3];have:=p2 i gv h2;have e:c.b9[i]=vals c.ds[i]:=yS vals;rw[e]at this;exact bN this
theorem WE(K:c.ok)(hc:σ[k]? =some (.inst 539 (jY c j ta a)))(hn:Nt nt):Cm [.loc k,nt] σ=some (.bool (jB c nt),σ):=by
 generalize aZ:(bX ["self","found"] [.loc k,nt] λz=>none)=a9;have g1:a9 "self"=some (.loc k):=by rw[←aZ];rfl
 have g2:a9 "found"=some nt:=aZ▸rfl;have it:∀{b:Bool},qA "tuple" nt=some b→bY Fx a9 σ=some (!b,σ):=λh=>nE g2 h;refine fE rfl ?_ rfl;rw[aZ];rcases hn with⟨i,rfl⟩|⟨b,rfl⟩|⟨s,rfl⟩|⟨l,rfl,hz,hl⟩
 ·exact dg (dG (it (b:=false) rfl)) (bW rfl)
 ·exact dg (dG (it (b:=false) rfl)) (bW rfl)
 ·exact dg (dG (it (b:=false) rfl)) (bW rfl)
 ·have I4:aN cq [af "found"] a9 σ=some (.int l.length,σ):=(bp (aV (aj g2))).trans (ko (ao (bH hz 1) (aK rfl)));have t1:aJ cA (aN cq [(af "found")]) (aN cq [pR]) a9 σ=some (!decide ((l.length:Int)=c.ds.length),σ):=aX I4 (NQ K hc g1) (by unfold cA;rw[gL];rfl);by_cases bJ:l.length=c.ds.length
  ·rw[bN (Int.le_antisymm (jJ.mpr (bM bJ)) (jJ.mpr (bM bJ.symm)))]at t1;obtain⟨aA,f1,f2⟩:=abk (ρ:=a9) (σ:=σ) (body:=HD) (good:=pk c.ds l) (dK l.length) (λi hi ai hm hx=>by
    have gv:=gW.mp hi;have h1:ai "self"=some (.loc k):=(hm _ (by decide)).trans g1;have h2:ai "found"=some (.tup l):=(hm _ (by decide)).trans g2;have r5:l[i]? =some (l.getD i .none):=by rw[eX,cF gv];rfl
    have hs:aG (af "found") (af "x") ai σ=some (l.getD i .none,σ):=dH (i:=i) (aj h2) (aj hx) r5 (ao (ao gv hz) (aK rfl));have B1:c.ds.getD i []∈DD:=by rw[eX,cF (ao gv (bM bJ))];exact(K.dd _ (mN _)).1
    have hp:=hl _ (lM r5);have w1:bY (cB (aN js [tI])) ai σ=some (!isInt (l.getD i .none),σ):=fj (dn ((bp (aV hs)).trans (D6 (by rcases hp with⟨i,h,_⟩|h;exact .inl ⟨i,h⟩;exact .inr h))));rcases hp with⟨v,e,hv⟩|⟨b,e⟩
    ·rw[e]at w1 hs;have w2:bY (cB (aN xv [(aG pR (af "x")),tI])) ai σ=some (!decide (v∈vals (c.ds.getD i [])),σ):=fj (dn ((bp (bC (gA (i:=i) (OF hc h1) (aj hx) (by rw[eM,eX,cF (ao gv (bM bJ))];rfl) (ao (ao gv hz) (aK rfl)):aG pR (af "x") ai σ=some (eD (c.ds.getD i []),σ)) (aV hs))).trans ((PM _ v).trans (by rw[EF _ B1 v hv]))));have hg:pk c.ds l i=decide (v∈vals (c.ds.getD i [])):=by unfold pk;rw[e]
     rw[hg];cases h:decide (v∈vals (c.ds.getD i []))with
     |true=>rw[h]at w2;exact(aR ((bZ ((df w1).trans ((df w2).trans rfl))).trans rfl)).trans rfl
     |false=>rw[h]at w2;exact bS ((cT ((df w1).trans (dG w2))).trans (bS (dE rfl)))
    ·rw[e]at w1;have hg:pk c.ds l i=false:=by unfold pk;rw[e]
     rw[hg];exact bS ((cT (dG w1)).trans (bS (dE rfl)))) a9 λz z=>rfl
   have hr:bE (aN gz [(aN cq [(af "found")])]) a9 σ=some ((dK l.length).map λi:Nat=>PV.int i,σ):=by
    refine dq (v:= .d7 0 l.length) ((bp (aV I4)).trans rfl) ?_;rw[mX (by decide) (⟨(dS (gV (by decide) (sa _))),(dS (i9 (jJ.mpr hz) (by decide)))⟩)];congr 1;refine yE λi z=> ?_;rw[zf]
   have A7:=(gk (bF:=a8 "x") (body:=HD) hr).trans f1;have tt:dh [(bY Fx),Pc] a9 σ=some (false,σ):=(df (it (b:=true) rfl)).trans ((df t1).trans rfl);have tX:=ZK bJ;cases dU:(dK l.length).all (pk c.ds l)with
   |false=>
    rw[dU]at A7;have:jB c (.tup l)=false:=by
     cases h:jB c (.tup l)with
     |false=>rfl
     |true=>
      refine cY (AB h) λvs e uf z=> ?_;rw[tX.mpr ⟨vs,PV.tup.inj e,wJ uf⟩]at dU;exact pL dU
    rw[this];exact bq tt ⟨_,bS A7⟩
   |true=>
    rw[dU]at A7;(refine aT (tX.mp dU) λvs aM hv=> ?_;clear aZ it hz hl I4 bJ f1 hr tX dU;subst aM);refine bG (td K (o9 hv)) λq hq=> ?_;have lK:vs.map PV.int= .int (vs.getD 0 0):: .int (vs.getD 1 0)::q.map .int:=by
     conv=>lhs;rw[hq]
     rfl
    have hV:∀τ:ah,r3 τ (.tup (vs.map .int)) (vs.getD 0 0) (vs.getD 1 0):=λτ=>by
     rw[lK];exact ad6 (n:=τ.length) (by rw[←lK];exact n7 λz z=>rfl) rfl
    have h2:aA "found"=some (.tup (vs.map .int)):=(f2 _ (by decide)).trans g2;have h1:aA "self"=some (.loc k):=(f2 _ (by decide)).trans g1;refine bq tt (cg A7 (bW (dz ?_)));have IC:=jL (ρ:=aA) (σ:=σ) (x:="told") (it:=bE vz) (cv:=bY (cB (aN sP [(af "told"),(af "found")]))) (e:=af "told") [c.t0,c.t1] eT eT (λt=> !eW t (vs.getD 0 0) (vs.getD 1 0)) (dq (jR (v:= .lst [eT c.t0,eT c.t1]) (aj h1) hc rfl) rfl) (aK rfl) (λt ht x=>by
     have h3:((aA.drop [".0","told"]).set "told" (eT t)) "found"=some (.tup (vs.map .int)):=h2;exact fj (dn ((bp (bC (aj rfl) (aV (aj h3)))).trans (NG t (hV _))))) (λz z z z=>rfl) λz z z=>GJ _ _
    have plT:∀t:Tl,Pl 3 (eT t)=true:=λt=>by cases t<;>rfl
    refine aX (f:=bA) IC rfl (sJ (n:=3) (kg.mpr λp hp=>by obtain⟨x,_,rfl⟩:=dR.mp hp;exact plT x) (by decide) ?_);have:jB c (.tup (vs.map .int))=c.keeps vs:=by
     show((kK _).map _).getD false=_;rw[WA];show decide (vs∈c.answers)=_;cases h:c.keeps vs with
     |true=>exact bN (ib.mpr ⟨hv,h⟩)
     |false=>exact bT λhm=>by have:=(ib.mp hm).2;rw[h]at this;(first|exact aQ this|exact dA this|exact cL this)
    rw[this];unfold b8.keeps;cases h1:eW c.t0 (vs.getD 0 0) (vs.getD 1 0)<;>cases h2:eW c.t1 (vs.getD 0 0) (vs.getD 1 0)<;>simp only[List.filter,h1,h2,Bool.not_true,Bool.not_false,jq,Dj,reduceCtorEq,decide_false,decide_true,Bool.and_self,Bool.and_true,Ku]
  ·rw[bT (by lia)]at t1;have:jB c (.tup l)=false:=by
    cases h:jB c (.tup l)with
    |false=>rfl
    |true=>
     refine cY (AB h) λvs e uf z=> ?_;rw[(PV.tup.inj e),bB]at bJ;exact bP (o9 (wJ uf)) bJ
   rw[this];exact dg ((df (it (b:=true) rfl)).trans (dG t1)) (bW rfl)
end
section
variable{ρ ai:aO}{σ aq τ:ah}{c:b8}{ap:Option (List Int)}{bl:List (List K3)}{aW:List Sp}{r:String}{C Pm nt:PV}{k j a:Nat}{ta:PV}
theorem Mj(hc:σ[k]? =some (.inst 539 (jY c j ta a)))(h:ρ "self"=some (.loc k)):ij (af "self") 539 "goal" ρ σ=some (c.goal,σ):=jR (aj h) hc rfl
theorem WG(K:c.ok)(hc:σ[k]? =some (.inst 539 (jY c j ta a))){ks:List K3}{vs:List Int}(hv:vs.length=c.ds.length):
 Cb [.loc k,bh ks,.tup (vs.map .int)] σ=some (.str (if mf c vs ks=true then"" else"better"),σ):=by
 refine fE rfl ?_ rfl;generalize aZ:((bX ["self","clause","found"] [.loc k,bh ks,.tup (vs.map .int)] λz=>none).set "kind" (.str c.kind)).set "x" c.gx=aA;refine cg (jA (Mj hc rfl) rfl) ?_;show Rt _ (((bX ["self","clause","found"] [.loc k,bh ks,.tup (vs.map .int)] λz=>none).set "kind" (.str c.kind)).set "x" c.gx) σ _ σ;rw[aZ];have g1:aA "kind"=some (.str c.kind):=by rw[←aZ];rfl
 have g2:aA "x"=some c.gx:=by rw[←aZ];rfl
 have g3:aA "clause"=some (bh ks):=by rw[←aZ];rfl
 refine bG (td K hv) λq hq=> ?_;have lK:vs.map PV.int= .int (vs.getD 0 0):: .int (vs.getD 1 0)::q.map .int:=by
  conv=>lhs;rw[hq]
  rfl
 have g4:aA "found"=some (.tup (.int (vs.getD 0 0):: .int (vs.getD 1 0)::q.map .int)):=by rw[←lK,←aZ];rfl
 have qY:mf c vs ks=((decide (c.kind="minimize")&&decide (ks= [(0,"<=",vs.getD 0 0-1)]))||(decide (c.kind="maximize")&&decide (ks= [(0,">=",vs.getD 0 0+1)]))):=rfl;generalize vs.getD 0 0=v0 at g4 qY;have RG:∀{s:String} {v:Int} {e:CE},e aA σ=some (bh [(0,s,v)],σ)→aJ bA (af "clause") e aA σ=some (decide (ks= [(0,s,v)]),σ):=λh=>
  aX (aj g3) h (vg (n:=2) (m:=2) (by exact iA _) (by exact iA _) (by decide) (by
   rw[h9];exact⟨λh=>by rw[h],λh=>qj (λz z=>vh) (PV.tup.inj h)⟩))
 have f0:∀{e:CE},e aA σ=some (.int (0:Nat),σ)→aG (af "found") e aA σ=some (.int v0,σ):=λh=>dH (i:=0) (aj g4) h rfl (by decide);rcases K.goal with⟨fJ,hg⟩|⟨fJ|fJ,hg⟩
 ·have:mf c vs ks=false:=by rw[qY,fJ];rfl
  rw[this];refine bq (cK g1 (by rw[fJ];rfl)) (bW ?_);exact(gC (fY (cK g1 (by rw[fJ];rfl)))).trans rfl
 ·have hb:mf c vs ks=decide (ks= [(0,"<=",v0-1)]):=by
   rw[qY,fJ];show(true&&_||false&&_)=_;rw[zc,uB,KG]
  rw[hb];rw[hg]at g2;have h2:=RG (s:="<=") (v:=v0-1) (e:=bg [Pd]) (d3 (aV (d3 (bC (aj g2) (bC rfl (aV ((da (f0 (aj g2)) rfl).trans rfl)))))));refine dg (cK g1 (by rw[fJ];rfl)) (bW ?_);cases h:decide (ks= [(0,"<=",v0-1)])with
  |true=>rw[h]at h2;exact(iJ h2).trans rfl
  |false=>rw[h]at h2;exact(gC h2).trans rfl
 ·have hb:mf c vs ks=decide (ks= [(0,">=",v0+1)]):=by
   rw[qY,fJ];show(false&&_||true&&_)=_;rw[zc,uB,y9]
  rw[hb];rw[hg]at g2;have h2:=RG (s:=">=") (v:=v0+1) (e:=bg [Pe]) (d3 (aV (d3 (bC (aj g2) (bC rfl (aV ((da (f0 (aj g2)) rfl).trans rfl)))))));refine bq (cK g1 (by rw[fJ];rfl)) (bW ?_);cases h:decide (ks= [(0,">=",v0+1)])with
  |true=>rw[h]at h2;exact(iJ ((eJ (cK g1 (by rw[fJ];rfl))).trans ((eJ h2).trans rfl))).trans rfl
  |false=>rw[h]at h2;exact(gC ((eJ (cK g1 (by rw[fJ];rfl))).trans (fY h2))).trans rfl
theorem ZL{ks:List K3}{vs:List Int}:(ks.all λl=>decide (l.2.1="!=")&&decide (l.2.2=vs.getD l.1.toNat 0))=true↔bh ks= .tup (ks.map λl=>K3.pv (l.1,"!=",vs.getD l.1.toNat 0)):=by
 unfold bh;rw[fU,PV.tup.injEq];constructor
 ·intro h;refine yE λl hl=> ?_;have:=h l hl;rw[ia,h9,h9]at this;clear hl;obtain⟨x,s,v⟩:=l;dsimp only at this⊢;rw[this.1,this.2]
 ·intro h l hl;have e:=vh (J4.mp h l hl);clear hl;obtain⟨x,s,v⟩:=l;simp only[ri,true_and]at e;rw[ia,h9,h9];exact e
def nf(σ:ah)(c:b8)(k j a:Nat)(bl:List (List K3))(ks:List K3):ah:=(σ.set k (.inst 539 (jY c j (kW (some (ks.map (·.1)))) a))).set a (.list ((bl++ [ks]).map bh))
theorem Mk{body:CS}{ks:List K3}(K:c.ok)(hl:args.length=params.length)(h:body (bX params args λy=>none) σ=some (.ret (.str ""),ai,nf σ c k j a bl ks))(I5:j<σ.length)(jG:k<σ.length)(Te:a<σ.length):cI params body args σ=some (.str "",nf σ c k j a bl ks):=by
 have bJ:(nf σ c k j a bl ks).length=σ.length:=by rw[kZ,kZ]
 refine mY hl h rfl ⟨by rw[bJ];exact cH _,λi hi=> ?_⟩ rfl (by rw[←bJ,qc]);by_cases q:i=a
 ·clear h Te bJ;subst q;refine .inr ⟨_,j9 (by rw[kZ];exact hi),?_⟩;exact n7 λks y=>xn _ ks
 ·rw[oN (λz=>q z.symm)];by_cases q2:i=k
  ·clear h jG bJ;subst q2;refine .inr ⟨_,j9 hi,?_⟩;show eE σ.length [PV.lst (c.ds.map eD),.lst [eT c.t0,eT c.t1],c.goal,.loc j,kW (some (ks.map (·.1))),.loc a]=true;rw[jO];intro p hp;simp only[cG,ff,fg]at hp;rcases hp with rfl|rfl|rfl|rfl|rfl|rfl
   ·exact n7 λd y=>l4 _ d
   ·show eE σ.length _=true;rw[jO];intro p hp;simp only[cG,ff,fg]at hp;rcases hp with rfl|rfl<;>exact GJ _ _
   ·rcases K.goal with⟨_,h⟩|⟨_,h⟩<;>(unfold b8.goal;rw[h];rfl)
   ·exact bN I5
   ·exact n7 λy y=>rfl
   ·exact bN Te
  ·exact .inl (oN (λz=>q2 z.symm))
abbrev RH:=aN jv [runC false [".0","x"] (bE (af "some")) (a8 "x") (λz σ=>some (true,σ)) (λk=>bK FA k) bQ]
theorem ZM(K:c.ok)(I6:k≠a)(I5:j<σ.length)(hc:σ[k]? =some (.inst 539 (jY c j (kW ap) a)))(ha:σ[a]? =some (.list (bl.map bh)))(d8:bl.length≤1000){ks:List K3}{vs:List Int}(hk:∀l∈ks,dQ c.ds.length l)(hz:ks.length≤4)(hv:vs.length=c.ds.length):
 Cg [.loc k,bh ks,.tup (vs.map .int)] σ=some (.str (if c.kind≠"satisfy" then"goal" else if ki ap vs ks=true then"seen" else if ks∈bl then"again" else""),if c.kind="satisfy"∧ki ap vs ks=false∧ks∉bl then nf σ c k j a bl ks else σ):=by
 generalize aZ:(bX ["self","clause","found"] [.loc k,bh ks,.tup (vs.map .int)] λz=>none)=a9;have g1:a9 "self"=some (.loc k):=aZ▸rfl;have g2:a9 "clause"=some (bh ks):=aZ▸rfl;have t1:aJ cA (aG Fz (aw 0)) (a5 "satisfy") a9 σ=some (decide (c.kind≠"satisfy"),σ):=aX (dH (i:=0) (v:= .str c.kind) (l:= [.str c.kind,c.gx]) (Mj hc g1) rfl rfl (by decide)) rfl (ne_str rfl);by_cases oE:c.kind="satisfy"
 ·rw[bT (λh=>h oE)]at t1;rw[aS (λh=>h oE)];have c1:aN jv [runC false [".0","literal"] (bE (af "clause")) (a8 "literal") (λz σ=>some (true,σ)) (λk=>bK xS k) bQ] a9 σ=some (kW (some (ks.map (·.1))),σ):=by
   refine(bp (aV (n6 ks K3.pv (λl=> .int l.1) (dq (aj g2) rfl) (ao hz (aK rfl)) (λx hx l=> ?_) λz z=>rfl))).trans ?_
   ·exact dH (i:=0) (aj (v:=x.pv) rfl) rfl rfl (by decide)
   ·refine(aP (.inr (show(ks.map λl:K3=>PV.int l.1).length≤100000 by rw[bB];exact ao hz (aK rfl)))).trans ?_;show some (PV.tup _,σ)=some (PV.tup ((ks.map (·.1)).map .int),σ);rw[kH];rfl
  have s1:=cf (x:="some") c1;generalize fv:a9.set "some" (kW (some (ks.map (·.1))))=aA at s1;have k1:aA "self"=some (.loc k):=fv▸g1;have k2:aA "clause"=some (bh ks):=fv▸g2;have k4:aA "some"=some (.tup ((ks.map (·.1)).map .int)):=fv▸rfl;have c2:aN jv [runC false [".0","x"] (bE (af "some")) (a8 "x") (λz σ=>some (true,σ)) (λk=>bK FA k) bQ] aA σ=some (.tup (ks.map λl=>K3.pv (l.1,"!=",vs.getD l.1.toNat 0)),σ):=by
   refine(bp (aV (n6 ks (λl=> .int l.1) (λl=>K3.pv (l.1,"!=",vs.getD l.1.toNat 0)) (dq (l:=ks.map λl=> .int l.1) (aj k4) (by rw[kH];rfl)) (ao hz (aK rfl)) (λx hx l=> ?_) λz z=>rfl))).trans (aP (by rw[bB];lia));refine aT (sR (hk x hx)) λi e hi=> ?_;have e1:x.1=(i:Int):=by rw[e]
   have w1:((aA.drop [".0","x"]).set "x" (.int x.1)) "found"=some (.tup (vs.map .int)):=(fv▸(aZ▸rfl:a9 "found"=some (.tup (vs.map .int))):aA "found"=some (.tup (vs.map .int)));have w2:((aA.drop [".0","x"]).set "x" (.int x.1)) "x"=some (.int i):=by rw[e1];rfl
   have qD:vs[i]? =some (vs.getD x.1.toNat 0):=by rw[e1,eX,cF (hv▸hi)];rfl
   exact(d3 (bC (aj w2) (bC rfl (aV (dH (i:=i) (aj w1) (aj w2) (by rw[eM,qD];rfl) (by have:=K.len;lia)))))).trans (by rw[e1];rfl)
  have n1:aJ cA (af "clause") RH aA σ=some (!(ks.all λl=>decide (l.2.1="!=")&&decide (l.2.2=vs.getD l.1.toNat 0)),σ):=by
   refine aX (aj k2) c2 (tq (n:=2) (m:=2) (by exact iA _) (by exact kg.mpr λp hp=>by obtain⟨x,_,rfl⟩:=dR.mp hp;rfl) (by decide) ?_);rw[rf,←Kd,ZL]
  have n2:aJ ej (ij (af "self") 539 "told_apart") (bg [cU,(af "some")]) aA σ=some (!(decide (ap=none)||decide (ap=some (ks.map (·.1)))),σ):=by
   have Tf:∀l:List Int,Pl 1 (.tup (l.map .int))=true:=λl=>by exact zY l
   have pla:Pl 1 (kW ap)=true:=by
    cases ap with
    |none=>rfl
    |some l=>exact Tf l
   refine aX (jR (v:=kW ap) (aj k1) hc rfl) (d3 (bC rfl (aV (aj k4)))) (wQ (n:=1) (m:=1) pla (by show(true&&(Pl 1 (.tup ((ks.map (·.1)).map .int))&&true))=true;rw[Tf];rfl) (by decide) ?_);rw[rf,JO,lL,lL];cases ap with
   |none=>show _↔PV.none∉_;simp
   |some l=>
    show _↔PV.tup (l.map .int)∉_;simp only[reduceCtorEq,not_false_eq_true,true_and,CK,cG,ff,fg,false_or];exact⟨λh e=>h (qj (λz z e=>PV.int.inj e) (PV.tup.inj e)),λh e=>h (by rw[e])⟩
  have kE:ki ap vs ks=(!(ks.all λl=>decide (l.2.1="!=")&&decide (l.2.2=vs.getD l.1.toNat 0))|| !(decide (ap=none)||decide (ap=some (ks.map (·.1))))):=rfl;have cv:dh [(aJ cA (af "clause") RH),Pf] aA σ=some (ki ap vs ks,σ):=by
   rw[kE];cases h: !(ks.all λl=>decide (l.2.1="!=")&&decide (l.2.2=vs.getD l.1.toNat 0))with
   |true=>rw[h]at n1;exact dG n1
   |false=>
    rw[h]at n1;refine(df n1).trans ?_;cases h2: !(decide (ap=none)||decide (ap=some (ks.map (·.1))))with
    |true=>rw[h2]at n2;exact dG n2
    |false=>rw[h2]at n2;exact(df n2).trans rfl
  cases hb:ki ap vs ks with
  |true=>
   rw[hb]at cv;rw[aP rfl,aS nofun];exact fE rfl (by rw[aZ];exact bq t1 (cg s1 (dg cv (bW rfl)))) rfl
  |false=>
   rw[hb]at cv;have n3:aJ di (af "clause") FC aA σ=some (decide (ks∈bl),σ):=by
    refine aX (aj k2) (jR (v:= .loc a) (aj k1) hc rfl) (xk (n:=2) (m:=2) (sV ha) (by exact iA _) (kg.mpr λp hp=>by obtain⟨x,_,rfl⟩:=dR.mp hp;exact iA _) (by decide) ?_);rw[h9,dR];exact⟨λh=>⟨ks,h,rfl⟩,λ⟨x,h,e⟩=>by rw[←qj (λz z=>vh) (PV.tup.inj e)];exact h⟩
   by_cases dJ:ks∈bl
   ·rw[bN dJ]at n3;rw[aP dJ,aS (λh=>h.2.2 dJ)];exact fE rfl (by rw[aZ];exact bq t1 (cg s1 (bq cv (dg n3 (bW rfl))))) rfl
   ·rw[bT dJ]at n3;rw[aS dJ,aP ⟨oE,rfl,dJ⟩];have s2:cW (af "some") Bp aA σ=some (.next,aA,σ.set k (.inst 539 (jY c j (kW (some (ks.map (·.1)))) a))):=by
     refine jA (aj k4) ((bb (aj k1)).trans ?_);dsimp only;rw[hc];dsimp only;rw[aP ⟨rfl,aK rfl⟩];rfl
    have R:Rt Ju a9 σ (.str "") (nf σ c k j a bl ks):=by
     refine bq t1 (cg s1 (bq cv (bq n3 (cg s2 (cg (uU (ρ:=aA) (o:=ij (af "self") 539 "answers") (e:=af "clause") (jR (v:= .loc a) (aj k1) (j9 (iF hc)) rfl) (aj k2) (u9 I6.symm ha) (by rw[bB];exact ao d8 (aK rfl))) ?_)))));unfold nf;rw[mO];exact bW rfl
    (refine bG R λai e=> ?_;clear R);exact Mk K rfl (aZ▸e) I5 (iF hc) (iF ha)
 ·rw[bN oE]at t1;rw[aP oE,aS (λh=>oE h.1)];exact fE rfl (by rw[aZ];exact dg t1 (bW rfl)) rfl
end
structure Ff(ρ:aO)(k:Nat)(sv:PV)(N:Nat)(r:String)(C Pm nt:PV):Prop where
 se:ρ "self"=some (.loc k)
 st:ρ "steps"=some sv
 nu:ρ "number"=some (.int N)
 ru:ρ "rule"=some (.str r)
 cl:ρ "clause"=some C
 pr:ρ "premises"=some Pm
 no:ρ "note"=some nt
section
variable{ρ ai:aO}{σ aq τ:ah}{c:b8}{ap:Option (List Int)}{bl:List (List K3)}{aW:List Sp}{r:String}{C Pm nt pZ:PV}{k j a:Nat}{ta:PV}
theorem OH(h1:ρ "steps"=some (.lst (aW.map Sp.pv++ [pZ])))(h2:ρ "number"=some (.int aW.length))(d8:aW.length≤100):aG (af "steps") (af "number") ρ σ=some (pZ,σ):=
 gA (i:=aW.length) (aj h1) (aj h2) (by rw[mJ (by rw[bB];exact cH _),bB,uG];rfl) (ao (bH d8 1) (aK rfl))
theorem XH(d8:aW.length≤100)(hc:(∃l,pZ= .lst l)∨∃l,pZ= .tup l∧l.length<1000∧l.length≠4):q6 [.loc k,.lst (aW.map Sp.pv++ [pZ]),.int aW.length] σ=some (.str "step",σ):=by
 refine fE rfl (dg ?_ (bW rfl)) rfl;have hl:=λτ=>OH (ρ:=(bX ["self","steps","number"] [.loc k,.lst (aW.map Sp.pv++ [pZ]),.int aW.length] λz=>none)) (σ:=τ) (aW:=aW) (pZ:=pZ) rfl rfl d8;have Th:∀{b:Bool},qA "tuple" pZ=some b→bY (cB (gN "tuple" tM)) (bX ["self","steps","number"] [.loc k,.lst (aW.map Sp.pv++ [pZ]),.int aW.length] λz=>none) σ=some (!b,σ):=λh=>fj (dn ((bb (hl σ)).trans ((bb h).trans rfl)));rcases hc with⟨l,rfl⟩|⟨l,rfl,h1,h2⟩
 ·exact dG (Th (b:=false) rfl)
 ·refine(df (Th (b:=true) rfl)).trans (dG (aX ((bp (aV (hl σ))).trans (ko (ao h1 (aK rfl)))) rfl ?_));unfold cA;rw[gL,bT (by lia)];rfl
theorem abl(K:c.ok)(I6:k≠a)(hc:σ[k]? =some (.inst 539 (jY c j (kW ap) a)))(hj:σ[j]? =some (.inst 463 (lU c.ds)))(ha:σ[a]? =some (.list (bl.map bh)))(I7:bl.length≤1000)(hg:∀s∈aW,vq c s)(d8:aW.length≤100)(hC:Cl C)(hP:Pr Pm)(hN:r="strike"∨r="better"∨r="seen"→Nt nt):
 q6 [.loc k,.lst (aW.map Sp.pv++ [.tup [.str r,C,Pm,nt]]),.int aW.length] σ=some (.str (wd c ap bl aW r C Pm nt),if wd c ap bl aW r C Pm nt=""∧r="seen" then nf σ c k j a bl (l9 C)else σ):=by
 generalize I8:PV.lst (aW.map Sp.pv++ [.tup [.str r,C,Pm,nt]])=sv;generalize gQ:(bX ["self","steps","number"] [.loc k,sv,.int aW.length] λz=>none)=a9;have g0:a9 "steps"=some (.lst (aW.map Sp.pv++ [.tup [.str r,C,Pm,nt]])):=by rw[←gQ,I8];rfl
 have hl:∀{τ:ah},aG (af "steps") (af "number") a9 τ=some (.tup [.str r,C,Pm,nt],τ):=OH g0 (gQ▸rfl) d8;have t0:dh [(bY (cB (gN "tuple" tM))),(aJ cA (aN cq [tM]) (aw 4))] a9 σ=some (false,σ):=
  (df (fj (t:=true) (dn ((bb hl).trans rfl)))).trans ((df (aX ((bp (aV hl)).trans (ko (aK rfl))) rfl rfl)).trans rfl)
 generalize aZ:((((a9.set "rule" (.str r)).set "clause" C).set "premises" Pm).set "note" nt)=aA;have s1:cW tM tJ a9 σ=some (.next,aA,σ):=by rw[←aZ];exact jA hl rfl
 have F:Ff aA k sv aW.length r C Pm nt:=by rw[←aZ,←gQ];exact⟨rfl,rfl,rfl,rfl,rfl,rfl,rfl⟩
 have wc:∀(f:String),(jY c j (kW ap) a).lookup f=none→∀{cs:List CE} {args:List PV} {g:List PV→ah→Option (PV×ah)} {ρ:aO},ρ "self"=some (.loc k)→eA cs ρ σ=some (args,σ)→fi (af "self") 539 f g cs ρ σ=g (.loc k::args) σ:=λf hf=>λh1 h2=>jx (aj h1) hc hf h2;have t1:bY Pg aA σ=some (!fN c.ds.length C,σ):=fj (dn ((wc "is_clause" rfl F.se (aV (aj F.cl))).trans (Vc K hC hc)));have t2:=Mh (ρ:=aA) (σ:=σ) (ps:= []) (w:=js) rfl (N:=aW.length) (Pm:=Pm) (t2:=bY (pq kR hU (aw 0) (af "k") (af "number"))) hP F.pr (λi l=>by
  have h1:((aA.drop [".0","k"]).set "k" (.int i)) "number"=some (.int aW.length):=F.nu;refine(fj (EM rfl (aj (v:= .int i) rfl) rfl (aj h1) rfl)).trans ?_;rw[←Kn])
 have fin:∀{w:String} {aq:ah},Rt Cr a9 σ (.str w) σ→w=wd c ap bl aW r C Pm nt→¬(w=""∧r="seen")→q6 [.loc k,sv,.int aW.length] σ=some (.str (wd c ap bl aW r C Pm nt),if wd c ap bl aW r C Pm nt=""∧r="seen" then nf σ c k j a bl (l9 C)else σ):=λR hw hn=>by
  rw[←hw,aS hn];exact fE rfl (gQ▸R) rfl
 cases iz:fN c.ds.length C with
 |false=>
  rw[iz]at t1;have:wd c ap bl aW r C Pm nt="clause":=by unfold wd;rw[aP iz]
  exact fin (aq:=σ) (bq t0 (cg s1 (dg t1 (bW rfl)))) this.symm nofun
 |true=>
  rw[iz]at t1;(refine l5 (AA hC iz) λks aM hk hz z=> ?_;clear hC;subst aM);cases jm:vI aW.length Pm with
  |false=>
   rw[jm]at t2;have:wd c ap bl aW r (bh ks) Pm nt="premise":=by unfold wd;rw[aS (by rw[iz];decide),aP jm]
   exact fin (aq:=σ) (bq t0 (cg s1 (bq t1 (dg t2 (bW rfl))))) this.symm nofun
  |true=>
   rw[jm]at t2;(refine cY hP λps jH mI rY=> ?_;clear hP);rcases jH with rfl|rfl
   ·have dU:∀p∈ps,r4 aW.length p=true:=fU.mp jm;have w0:wd c ap bl aW r (bh ks) (.tup ps) nt=(if r="nogood" then(if mG ks (ox aW ps) c.b9=true then"" else"nogood")
     else if ps.isEmpty=false then"premise"
     else if r="strike" then(if lp nt=false then"note" else if i6 (c.told nt) ks c.b9=true then"" else"strike")
     else if¬(r="better"∨r="seen")then"rule"
     else if jB c nt=false then"answer"
     else if r="better" then(if mf c (tS nt) ks=true then"" else"better")
     else if c.kind≠"satisfy" then"goal"
     else if ki ap (tS nt) ks=true then"seen"
     else if ks∈bl then"again" else""):=by
     unfold wd;rw[aS (by rw[iz];decide),aS (by rw[jm];decide),vb];rfl
    by_cases i4:r="nogood"
    ·replace w0:=w0.trans (aP i4);have hl:=LH (ρ:=aA) (σ:=σ) (s:=af "steps") (sv:=sv) mI dU F.pr (λp l=>by
      exact aj F.st) (λi x l h=>by rw[←I8];exact Wy h (ao d8 (aK rfl)))
     have hb:=dn ((wc "clashes" rfl F.se (bC (aj F.cl) (aV hl))).trans (Xz (σ:=σ) (ks:=ks) (ls:=ox aW ps) hc rfl (by have:=K.len;lia) K.dd hk (by unfold ox;rw[bB];lia) (NS hg dU)));refine fin (aq:=σ) (bq t0 (cg s1 (bq t1 (bq t2 (dg (cK F.ru (by rw[i4];rfl)) (bW ?_)))))) w0.symm (by rw[i4];simp);change cB _ aA σ=some (mG ks (ox aW ps) c.b9,σ)at hb;cases h:mG ks (ox aW ps) c.b9 with
     |true=>rw[h]at hb;exact(iJ hb).trans rfl
     |false=>rw[h]at hb;exact(gC hb).trans rfl
    ·replace w0:=w0.trans (aS i4);have t3:∀{b:Bool},decide (ps≠ [])=b→aJ cA (af "premises") (bg []) aA σ=some (b,σ):=λh=>by
      have:=D7 (σ:=σ) rY h.symm mI;exact aX (aj F.pr) rfl this
     have n1:=cK (σ:=σ) F.ru (bT i4);by_cases jH:ps= []
     ·clear mI rY jm dU;subst jH;rw[aS (by decide)]at w0;by_cases i5:r="strike"
      ·replace w0:=w0.trans (aP i5);refine fin (aq:=σ) (bq t0 (cg s1 (bq t1 (bq t2 (bq n1 (bq (t3 rfl) (dg (cK F.ru (bN i5)) (bW ?_)))))))) w0.symm (by rw[i5];simp);exact(wc "strike_fault" rfl F.se (bC (aj F.cl) (aV (aj F.no)))).trans (WD K hc hj hk hz (hN (.inl i5)))
      ·replace w0:=w0.trans (aS i5);have n2:=cK (σ:=σ) F.ru (bT i5);have t4:aJ di (af "rule") tK aA σ=some (decide (r∈ ["better","seen"]),σ):=aX (aj F.ru) rfl (qr ["better","seen"] rfl);by_cases nN:r="better"∨r="seen"
       ·replace w0:=w0.trans (aS (λh=>h nN));rw[bN (by simpa using nN)]at t4;have oL:=hN (.inr nN);have t5:bY Ph aA σ=some (!jB c nt,σ):=fj (dn ((wc "is_answer" rfl F.se (aV (aj F.no))).trans (WE K hc oL)));cases we:jB c nt with
        |false=>
         rw[we]at t5;rw[aP we]at w0;exact fin (aq:=σ) (bq t0 (cg s1 (bq t1 (bq t2 (bq n1 (bq (t3 rfl) (bq n2 (dg t4 (dg t5 (bW rfl)))))))))) w0.symm nofun
        |true=>
         rw[we]at t5;rw[aS (by rw[we];decide)]at w0;(refine cY (AB we) λvs aM uf I3=> ?_;clear hN I8 g0 hl aZ oL we;subst aM);rw[I3]at w0;have yu:=o9 (wJ uf);by_cases nO:r="better"
         ·replace w0:=w0.trans (aP nO);refine fin (aq:=σ) (bq t0 (cg s1 (bq t1 (bq t2 (bq n1 (bq (t3 rfl) (bq n2 (dg t4 (bq t5 (bW ?_)))))))))) w0.symm (by rw[nO];simp);exact(iJ (cK F.ru (bN nO))).trans ((wc "better_fault" rfl F.se (bC (aj F.cl) (aV (aj F.no)))).trans (WG K hc yu))
         ·replace w0:=w0.trans (aS nO);have R:Rt Cr a9 σ (.str (wd c ap bl aW r (bh ks) (.tup []) (.tup (vs.map .int)))) (if c.kind="satisfy"∧ki ap vs ks=false∧ks∉bl then nf σ c k j a bl ks else σ):=by
           rw[w0];refine bq t0 (cg s1 (bq t1 (bq t2 (bq n1 (bq (t3 rfl) (bq n2 (dg t4 (bq t5 (bW ?_)))))))));exact(gC (cK F.ru (bT nO))).trans ((wc "seen_fault" rfl F.se (bC (aj F.cl) (aV (aj F.no)))).trans (ZM (ap:=ap) (bl:=bl) (ks:=ks) K I6 (iF hj) hc ha I7 hk hz yu))
          rw[vb];have H3:(wd c ap bl aW r (bh ks) (.tup []) (.tup (vs.map .int))=""∧r="seen")↔(c.kind="satisfy"∧ki ap vs ks=false∧ks∉bl):=by
           rw[w0];by_cases q1:c.kind="satisfy"
           ·rw[aS (λh=>h q1)];cases q2:ki ap vs ks with
            |true=>simp
            |false=>
             by_cases q3:ks∈bl
             ·simp[q3]
             ·simp[q1,q3,(nN.resolve_left nO)]
           ·simp[q1]
          by_cases q:c.kind="satisfy"∧ki ap vs ks=false∧ks∉bl
          ·rw[aP q]at R;rw[aP (H3.mpr q)];rw[((H3.mpr q).1)]at R⊢;(refine bG R λai e=> ?_;clear R);exact Mk K rfl (gQ▸e) (iF hj) (iF hc) (iF ha)
          ·rw[aS q]at R;rw[aS (λh=>q (H3.mp h))];exact fE rfl (gQ▸R) rfl
       ·replace w0:=w0.trans (aP nN);rw[bT (by simpa using nN)]at t4;exact fin (aq:=σ) (bq t0 (cg s1 (bq t1 (bq t2 (bq n1 (bq (t3 rfl) (bq n2 (bq t4 (bW rfl))))))))) w0.symm nofun
     ·replace w0:=w0.trans (aP (by cases ps with|nil=>exact bP rfl jH|cons=>rfl));exact fin (aq:=σ) (bq t0 (cg s1 (bq t1 (bq t2 (bq n1 (dg (t3 (bN jH)) (bW rfl))))))) w0.symm nofun
   ·(first|exact aQ jm|exact dA jm|exact cL jm)
end
section
variable{ρ ai:aO}{σ aq τ av:ah}{cells:List Int}{n:Nat}
theorem EP{x:String}{v:PV}(h:ρ "tape"=some (.loc 0))(hs:σ[0]? =some (aH cells n))(hx: [("cells",PV.lst (cells.map .int)),("spot",.int n)].lookup x=some v):aG (af "tape") (a5 x) ρ σ=some (v,σ):=by
 refine dO (aj h) rfl ?_;have:dp σ (.loc 0)= .loc 0:=by unfold dp;dsimp only;rw[hs];rfl
 unfold fZ;rw[this];dsimp only;rw[hs];exact hx
theorem uV(n':Nat)(τ:ah):nh (aH cells n::av) (aH cells n'::av++τ):=by
 refine⟨by simp,λi hi=> ?_⟩;cases i with
 |zero=>
  refine .inr ⟨aH cells n',rfl,?_⟩;show eE _ [PV.lst (cells.map .int),.int n']=true;rw[jO];intro p hp;simp only[cG,ff,fg]at hp;rcases hp with rfl|rfl
  ·exact n7 λz z=>rfl
  ·rfl
 |succ i=>
  left;rw[Uj,Uj,jn (cQ (b:=1) hi)]
theorem NT{x w:Int}(h:0<w):0≤x.fmod w∧x.fmod w<w:=⟨Int.fmod_nonneg_of_pos x h,Int.fmod_lt_of_pos x h⟩
theorem GX{x w:Int}(h:0<w):rG σ (.int x) (.int w)=some (.int (x.fmod w),σ):=by
 show(if w=0 then none else some (PV.int (x.fmod w),σ))=_;rw[aS (Int.ne_of_gt h)]
theorem A8{x y:Int}(h: -1000000000<x∧x<1000000000):l7 σ (.int x) (.int y)=some (.int (x*y),σ):=by
 show(if(-1000000000<x∧x<1000000000)then some (PV.int (x*y),σ)else none)=_;rw[aP h]
theorem OI(cC:cells.length≤1000)(hn:n≤10000){w:Int}(hw:0<w):∃v,jK [.loc 0,.int w] (aH cells n::av)=some (.int v,aH cells (n+1)::av)∧0≤v∧v<w:=by
 generalize aZ:(bX ["tape","wide"] [.loc 0,.int w] λz=>none).set "spot" (.int n)=aA;have s1:bx "spot" (aG (af "tape") (a5 "spot")) (bX ["tape","wide"] [.loc 0,.int w] λz=>none) (aH cells n::av)=some (.next,aA,aH cells n::av):=by rw[←aZ];exact cf (EP rfl rfl rfl)
 have g1:aA "tape"=some (.loc 0):=by rw[←aZ];rfl
 have g2:aA "wide"=some (.int w):=aZ▸rfl;have g3:aA "spot"=some (.int n):=aZ▸rfl;have s2:cW (bU dj (af "spot") (aw 1)) (gm (af "tape") (a5 "spot")) aA (aH cells n::av)=some (.next,aA,aH cells (n+1)::av):=by
  exact(jA (v:= .int ((n+1:Nat):Int)) ((da (aj g3) rfl).trans rfl) (Oj (t:=0) (x:="spot") (l:= [("cells",PV.lst (cells.map .int)),("spot",.int n)]) (aj g1) rfl rfl (aK rfl))).trans rfl
 have lc:aN cq [AO] aA (aH cells (n+1)::av)=some (.int cells.length,aH cells (n+1)::av):=(bp (aV (EP (v:= .lst (cells.map .int)) g1 rfl rfl))).trans ((qy (by rw[bB];exact ao (bH cC 1) (aK rfl))).trans (by rw[bB]));have fin:∀{v:Int},Rt LB (bX ["tape","wide"] [.loc 0,.int w] λz=>none) (aH cells n::av) (.int v) (aH cells (n+1)::av)→jK [.loc 0,.int w] (aH cells n::av)=some (.int v,aH cells (n+1)::av):=λR=>by
  (refine bG R λai e=> ?_;clear R);have:=uV (cells:=cells) (n:=n) (av:=av) (n+1) [];rw[gy]at this;exact mY rfl e rfl this rfl (qc (l:=aH cells (n+1)::av))
 by_cases q:n<cells.length
 ·have hg:(cells.map PV.int)[n]? =some (.int cells[n]):=by rw[eM,cF q];rfl
  refine⟨cells[n].fmod w,fin (cg s1 (cg s2 (dg (aX (aj g3) lc (by show some (decide _)=_;rw[bN (gg.mpr q)])) (bW ?_)))),NT hw⟩;exact(da (gA (i:=n) (EP (v:= .lst (cells.map .int)) g1 rfl rfl) (aj g3) hg (ao (bH hn 1) (aK rfl))) (aj g2)).trans (GX hw)
 ·refine⟨((5*n*n+7*n+3*cells.length+2:Int).fmod 53).fmod w,fin (cg s1 (cg s2 (bq (aX (aj g3) lc (by show some (decide _)=_;rw[bT (lQ.mpr (jJ.mpr (eP.mp q)))])) (bW ?_)))),NT hw⟩;exact(da ((da ((da ((da ((da ((da ((da (x:= .int 5) rfl (aj g3)).trans (A8 (by decide))) (aj g3)).trans (A8 (by lia))) ((da (x:= .int 7) rfl (aj g3)).trans (A8 (by decide)))).trans rfl) ((da (x:= .int 3) rfl lc).trans (A8 (by decide)))).trans rfl) rfl).trans rfl) rfl).trans (GX (w:=53) (by decide))) (aj g2)).trans (GX hw)
theorem iE(cC:cells.length≤1000)(hn:n≤10000){w:Int}(hw:0<w){e:CE}(h1:ρ "tape"=some (.loc 0))(he:∀τ,e ρ τ=some (.int w,τ)):∃v,aN jK [af "tape",e] ρ (aH cells n::av)=some (.int v,aH cells (n+1)::av)∧0≤v∧v<w:=by
 refine aT (OI (av:=av) cC hn hw) λv h hv=> ?_;exact⟨v,(bp (bC (aj h1) (aV (he _)))).trans h,hv⟩
theorem OJ{P:PV→Prop}{B:Nat}(k:Nat){x:String}{e:CE}:∀(xs:List PV) (n:Nat) (acc:List PV) (ρ:aO),acc.length+xs.length≤1000→n+k*xs.length≤B→
 (∀y∈xs,∀n l ai,n≤B→(∀z,z≠x→ai z=ρ z)→ai x=some y→∃v n',e ai (aH cells n::av++ [.list l])=some (v,aH cells n'::av++ [.list l])∧P v∧n'≤n+k)→
 ∃vs n' ai,hG false 0 (a8 x) (λu σ=>some (true,σ)) (bK e (av.length+1)) xs ρ (aH cells n::av++ [.list acc])=some (ai,aH cells n'::av++ [.list (acc++vs)])∧vs.length=xs.length∧(∀v∈vs,P v)∧n'≤n+k*xs.length
 | [],n,acc,ρ,_,_,_=>⟨[],n,ρ,by rw[gy];rfl,rfl,(λu h=>by cases h),bR _ _⟩
 |y::xs,n,acc,ρ,hz,hn,h=>by
  simp only[jb]at hz hn;rw[Nat.mul_add]at hn;obtain⟨v,n1,e1,hv,kD⟩:=h y (.head _) n acc (ρ.set x y) (ao (bR _ _) hn) (λz hz=>by unfold aO.set;rw[aS hz]) (by unfold aO.set;rw[aP rfl]);obtain⟨vs,n2,ai,e2,e3,e4,e5⟩:=OJ (P:=P) (B:=B) k (x:=x) (e:=e) xs n1 (acc++ [v]) (ρ.set x y) (by simp;exact ao (bM (fS _ 1 _)) hz) (by lia) (λy' vP n l ai hn aZ hx=>h y' (.tail _ ‹_›) n l ai hn (λz hz=>(aZ z hz).trans (by unfold aO.set;rw[aS hz])) hx);refine⟨v::vs,n2,ai,?_,by simp[e3],λw hw=> ?_,by simp only[jb];rw[Nat.mul_add];lia⟩
  ·have ee:bK e (av.length+1) (ρ.set x y) (aH cells n::av++ [.list acc])=some (ρ.set x y,aH cells n1::av++ [.list (acc++ [v])]):=by
    rw[←(iD (aH cells n1::av) (.list acc) (.list (acc++ [v])) [])];exact Av e1 ((λm l=>fh (aH cells m::av) (.list l) []) _ _) (cQ (b:=1) (ao (ao (bH (bR _ _) 1) hz) (aK rfl)))
   show((bK e (av.length+1) (ρ.set x y) (aH cells n::av++ [.list acc])).bind _)=_;rw[ee];show hG false 0 _ _ _ xs (ρ.set x y) _=_;rw[e2,jo];rfl
  ·rcases cG.mp hw with rfl|hw
   ·exact hv
   ·exact e4 w hw
theorem Eo{P:PV→Prop}{B:Nat}(k:Nat){x:String}{e:CE}(xs:List PV){n0:Nat}(hit:it ρ (aH cells n0::av)=some (xs,aH cells n::av))(hz:xs.length≤1000)(hn:n+k*xs.length≤B)(hP:∀v,P v→PV.lt (av.length+1) v=true)
 (h:∀y∈xs,∀n l ai,n≤B→(∀z,z≠x→z≠".0"→ai z=ρ z)→ai x=some y→∃v n',e ai (aH cells n::av++ [.list l])=some (v,aH cells n'::av++ [.list l])∧P v∧n'≤n+k):
 ∃vs n',runC false [".0",x] it (a8 x) (λw σ=>some (true,σ)) (λk=>bK e k) bQ ρ (aH cells n0::av)=some (.lst vs,aH cells n'::av)∧vs.length=xs.length∧(∀v∈vs,P v)∧n'≤n+k*xs.length:=by
 obtain⟨vs,n',ai,e1,e2,e3,e4⟩:=OJ (P:=P) (cells:=cells) (av:=av) (B:=B) k (x:=x) (e:=e) xs n [] (ρ.drop [".0",x]) (by simpa using hz) hn (λy hy n l ai hn aZ hx=>h y hy n l ai hn (λz hz oJ=>(aZ z hz).trans (by unfold aO.drop;rw[aS (by simp[hz,oJ])])) hx);refine⟨vs,n',?_,e2,e3,e4⟩;unfold runC;rw[hit];show((hG false (av.length+1-1) _ _ (bK e (av.length+1)) xs (ρ.drop [".0",x]) (aH cells n::av++ [.list []])).bind λq=>bQ (aH cells n0::av) (av.length+1) q)=_;rw[Aj,e1];show bQ (aH cells n0::av) (av.length+1) (ai,aH cells n'::av++ [.list vs])=_;unfold bQ pT;rw[aP (uV n' [.list vs])];dsimp only;rw[aS (by simp),(fh (aH cells n'::av) (.list vs) [])];show((if eE (av.length+1) vs=true then some (PV.lst vs)else none).bind _)=_;rw[aP (jO.mpr λp hp=>hP p (e3 p hp))];show some (_,List.take (av.length+1) (aH cells n'::av++ [PO.list vs]))=_;rw[show av.length+1=(aH cells n'::av).length from rfl,uA]
end
def Dr(many:Nat)(l:K3):Prop:=(0≤l.1∧l.1<many)∧jk l.2.1∧ -1≤l.2.2∧l.2.2≤2
variable{many:Nat}
theorem Dr.lit{l:K3}(h:Dr many l):dQ many l:=⟨h.1,h.2.1,by have:=h.2.2;exact dS (gV (by decide) this.1),by have:=h.2.2;exact dS (i9 this.2 (by decide))⟩
theorem ZN(a:K3):∀l:List K3,(qC a l).length≤l.length+1:=by
 intro x0
 induction x0 with
 |nil=>exact cH _
 |cons b l ih=>
  unfold qC;split
  ·simp
  ·split
   ·simp
   ·have:=ih;exact bH this 1
theorem M3:∀l:List K3,(iQ l).length≤l.length:=by
 intro x0
 induction x0 with
 |nil=>exact cH _
 |cons a l ih=>
  exact ao (ZN a (iQ l)) (bH ih 1)
section
abbrev PX:CS:=QV
end
section
variable{ρ ai:aO}{σ aq τ av:ah}{cells:List Int}{n:Nat}
theorem afs{v:Int}(h:0≤v∧v<4):∃s,jk s∧fZ σ (.tup [.str "<=",.str ">=",.str "=",.str "!="]) (.int v)=some (.str s):=by
 have:v=0∨v=1∨v=2∨v=3:=by lia
 clear h;rcases this with rfl|rfl|rfl|rfl
 ·exact⟨"<=",.inl rfl,rfl⟩
 ·exact⟨">=",.inr (.inl rfl),rfl⟩
 ·exact⟨"=",.inr (.inr (.inl rfl)),rfl⟩
 ·exact⟨"!=",.inr (.inr (.inr rfl)),rfl⟩
theorem ad7(hm:0<many)(cC:cells.length≤1000){ks:List K3}(hz:ks.length≤1000)(hn:n+3≤10000)(h1:ρ "tape"=some (.loc 0))(h2:ρ "many"=some (.int many))(h3:ρ "some"=some (.loc (av.length+1))):
 ∃l v,PX ρ (aH cells n::(av++ [.list (ks.map K3.pv)]))=some (.next,ρ.set "x" v,aH cells (n+3)::(av++ [.list ((ks++ [l]).map K3.pv)]))∧Dr many l:=by
 refine aT (iE (ρ:=ρ) (n:=n) (av:=av++ [PO.list (ks.map K3.pv)]) cC (cQ (b:=3) (ao hn (aK rfl))) (w:=many) (gg.mpr hm) (e:=af "many") h1 (λz=>aj h2)) λx e1 hx=> ?_;have k1:(ρ.set "x" (.int x)) "tape"=some (.loc 0):=h1;have k3:(ρ.set "x" (.int x)) "some"=some (.loc (av.length+1)):=h3;refine aT (iE (ρ:=ρ.set "x" (.int x)) (n:=n+1) (av:=av++ [PO.list (ks.map K3.pv)]) cC (cQ (b:=2) (ao hn (aK rfl))) (w:=4) (by decide) (e:=aw 4) k1 (λz=>rfl)) λs e2 hs=> ?_;refine aT (iE (ρ:=ρ.set "x" (.int x)) (n:=n+1+1) (av:=av++ [PO.list (ks.map K3.pv)]) cC (cQ (b:=1) (ao hn (aK rfl))) (w:=4) (by decide) (e:=aw 4) k1 (λz=>rfl)) λk e3 hk=> ?_;refine aT (afs (σ:=aH cells (n+1+1)::(av++ [PO.list (ks.map K3.pv)])) hs) λsg hsg e4=> ?_;refine⟨(x,sg,k-1),.int x,?_,hx,hsg,by dsimp only;lia,by dsimp only;lia⟩;have hg:∀m,(aH cells m::(av++ [PO.list (ks.map K3.pv)]))[av.length+1]? =some (.list (ks.map K3.pv)):=λm=>fh (aH cells m::av) _ [];have ar:eA [Pj] (ρ.set "x" (.int x)) (aH cells (n+1)::(av++ [PO.list (ks.map K3.pv)]))=some ([K3.pv (x,sg,k-1)],aH cells (n+1+1+1)::(av++ [PO.list (ks.map K3.pv)])):=
  aV (d3 (bC (aj rfl) (bC (dO rfl e2 e4) (aV ((da e3 rfl).trans rfl)))))
 refine(aR (cf e1)).trans ((aR (xj ((vF (aj k3) (ty_list (hg _)) ar).trans (PJ (hg _) (by rw[bB];exact ao hz (aK rfl)))))).trans ?_);have:(aH cells (n+1+1+1)::(av++ [PO.list (ks.map K3.pv)])).set (av.length+1) (.list (ks.map K3.pv++ [K3.pv (x,sg,k-1)]))=aH cells (n+1+1+1)::(av++ [PO.list (ks.map K3.pv++ [K3.pv (x,sg,k-1)])]):=iD (aH cells (n+1+1+1)::av) _ _ [];rw[this,mO];rfl
theorem ac0(hm:0<many)(cC:cells.length≤1000):∀(rL:List PV) (ρ:aO) (n:Nat) (ks:List K3),ks.length+rL.length≤1000→n+3*rL.length≤10000→ρ "tape"=some (.loc 0)→ρ "many"=some (.int many)→ρ "some"=some (.loc (av.length+1))→(∀l∈ks,Dr many l)→
 ∃ai,∃d5:List K3,eU false 0 (a8 "lap") PX rL ρ (aH cells n::(av++ [.list (ks.map K3.pv)]))=some (.next,ai,aH cells (n+3*rL.length)::(av++ [.list (d5.map K3.pv)]))∧ai "some"=some (.loc (av.length+1))∧d5.length=ks.length+rL.length∧∀l∈d5,Dr many l:=by
 intro x0
 induction x0 with
 |nil=>exact λρ n ks z z h1 h2 h3 hk=>⟨ρ,ks,rfl,h3,rfl,hk⟩
 |cons y rL ih=>
  intro ρ n ks hz hn h1 h2 h3 hk;simp only[jb]at hz hn;have k1:(ρ.set "lap" y) "tape"=some (.loc 0):=h1;have k2:(ρ.set "lap" y) "many"=some (.int many):=h2;have k3:(ρ.set "lap" y) "some"=some (.loc (av.length+1)):=h3;refine gD (ad7 (n:=n) (av:=av) (ks:=ks) hm cC (cQ (b:=1) (ao (ao (bH (bR _ _) 1) hz) (aK rfl))) (by lia) k1 k2 k3) λl v e1 hl=> ?_;obtain⟨ai,d5,e2,e3,e4,e5⟩:=ih ((ρ.set "lap" y).set "x" v) (n+3) (ks++ [l]) (by simp;exact ao (bM (fS _ 1 _)) hz) (by lia) k1 k2 k3 (λx hx=>by
   rcases uy.mp hx with h|h
   ·exact hk x h
   ·rw[fz]at h;exact h▸hl)
  refine⟨ai,d5,(ie (aA:=ρ.set "lap" y) rfl e1).trans (e2.trans ?_),e3,by rw[e4];simp;exact k7 (bM (fS _ 1 _)) (bM (fS _ 1 _).symm),e5⟩;rw[show n+3+3*rL.length=n+3*(y::rL).length by simp only[jb];lia]
theorem D8(hm:0<many)(cC:cells.length≤1000)(hn:n+20≤10000):∃ks n',zd [.loc 0,.int many] (aH cells n::av)=some (bh ks,aH cells n'::av)∧n'≤n+10∧ks.length≤2∧∀l∈ks,Dr many l:=by
 generalize aZ:(bX ["tape","many"] [.loc 0,.int many] λz=>none).set "some" (.loc (av.length+1))=aA;have g1:aA "tape"=some (.loc 0):=aZ▸rfl;refine aT (iE (ρ:=aA) (n:=n) (av:=av++ [PO.list []]) cC (cQ (b:=20) (ao hn (aK rfl))) (w:=3) (by decide) (e:=aw 3) g1 (λz=>rfl)) λm e1 Ti=> ?_;have bJ:(fC 0 m).length≤2:=by unfold fC;simp;lia
 obtain⟨bL,ks,e2,e3,e4,e5⟩:=ac0 (cells:=cells) (av:=av) hm cC (fC 0 m) aA (n+1) [] (by simp;exact ao bJ (aK rfl)) (by lia) g1 (aZ▸rfl) (aZ▸rfl) (λz h=>by cases h);have I9:ks.length≤2:=by rw[e4];simpa using bJ
 have hg:(aH cells (n+1+3*(fC 0 m).length)::(av++ [PO.list (ks.map K3.pv)]))[av.length+1]? =some (.list (ks.map K3.pv)):=fh (aH cells _::av) _ [];refine⟨iQ ks,n+1+3*(fC 0 m).length,?_,by lia,ao (M3 ks) I9,λl hl=>e5 l (uQ.mp hl)⟩;have R:Rt KR (bX ["tape","many"] [.loc 0,.int many] λz=>none) (aH cells n::av) (bh (iQ ks)) (aH cells (n+1+3*(fC 0 m).length)::(av++ [.list (ks.map K3.pv)])):=by
  generalize hS:aH cells (n+1+3*(fC 0 m).length)::(av++ [PO.list (ks.map K3.pv)])=S at hg e2;have es:sI (af "some") bL S=some (.lst ((iQ ks).map K3.pv),S):=by
   refine(bb (aj e3)).trans ((bb (a:=ks.map K3.pv) ?_).trans ((bb (sA ks)).trans ?_))
   ·unfold AK;rw[sV hg]
   ·rw[aP (ao I9 (aK rfl))]
  exact cg (aZ▸rfl) (cg ((gk (dq ((bp (aV e1)).trans rfl) (mX (by decide) (⟨(dS (gV (by decide) Ti.1)),(dS (oX Ti.2 (by decide)))⟩)):bE (aN gz [tO]) aA (aH cells n::(av++ [PO.list []]))=some (fC 0 m,aH cells (n+1)::(av++ [PO.list []])))).trans e2) (bW ((bp (aV es)).trans (aP (.inr (show((iQ ks).map K3.pv).length≤100000 by rw[bB];have:=M3 ks;exact ao (ao this I9) (aK rfl)))))))
 (refine bG R λai e=> ?_;clear R);exact mY rfl e rfl (uV (av:=av) _ [PO.list (ks.map K3.pv)]) (xn _ _) (uA (l₁:=aH cells (n+1+3*(fC 0 m).length)::av) (l₂:= [PO.list (ks.map K3.pv)]))
theorem OK(cC:cells.length≤1000)(hn:n+20≤10000):∃t,zq [.loc 0] (aH cells n::av)=some (eT t,aH cells (n+2)::av)∧ue t:=by
 refine aT (iE (ρ:=(bX ["tape"] [.loc 0] λz=>none)) (n:=n) (av:=av) cC (by exact cQ (b:=20) (ao hn (aK rfl))) (w:=5) (by decide) (e:=aw 5) rfl (λz=>rfl)) λq e1 hq=> ?_;refine aT (iE (ρ:=(bX ["tape"] [.loc 0] λz=>none)) (n:=n+1) (av:=av) cC (cQ (b:=19) (ao hn (aK rfl))) (w:=4) (by decide) (e:=aw 4) rfl (λz=>rfl)) λc e2 hc=> ?_;have s1:iH ["kind","c"] (bg [xV,kU]) (bX ["tape"] [.loc 0] λz=>none) (aH cells n::av)=some (.next,((bX ["tape"] [.loc 0] λz=>none).set "c" (.int c)).set "kind" (.int q),aH cells (n+2)::av):=(bb (d3 (bC e1 (aV e2)))).trans rfl;have dJ:c∈ [(0:Int),1,2,3]:=by simp only[cG,ff,fg];lia
 have fin:∀t:Tl,Rt LC (bX ["tape"] [.loc 0] λz=>none) (aH cells n::av) (eT t) (aH cells (n+2)::av)→zq [.loc 0] (aH cells n::av)=some (eT t,aH cells (n+2)::av):=λt R=>by
  (refine bG R λai e=> ?_;clear R);have:=uV (cells:=cells) (n:=n) (av:=av) (n+2) [];rw[gy]at this;exact mY rfl e rfl this (GJ _ t) (qc (l:=aH cells (n+2)::av))
 have:q=0∨q=1∨q=2∨q=3∨q=4:=by lia
 clear e1 hq;rcases this with rfl|rfl|rfl|rfl|rfl
 ·exact⟨.le c,fin _ (cg s1 (bq (aX rfl rfl rfl) (bq (aX rfl rfl rfl) (bW rfl)))),dJ⟩
 ·exact⟨.eq c,fin _ (cg s1 (bq (aX rfl rfl rfl) (bq (aX rfl rfl rfl) (bW rfl)))),dJ⟩
 ·exact⟨.ne,fin _ (cg s1 (bq (aX rfl rfl rfl) (bq (aX rfl rfl rfl) (bW rfl)))),trivial⟩
 ·exact⟨.gT,fin _ (cg s1 (dg (aX rfl rfl rfl) (bW rfl))),trivial⟩
 ·exact⟨.tab c,fin _ (cg s1 (bq (aX rfl rfl rfl) (dg (aX rfl rfl rfl) (bW rfl)))),dJ⟩
end
noncomputable def kQ(lo hi st:Option Int)(n:Nat):List Nat:=let b:=i8 lo hi (st.getD 1) n
 (dK (r7 b.1 b.2 (st.getD 1))).map λ(k:Nat)=>(b.1+(k:Int)*st.getD 1).toNat
theorem aft:kQ none (some 3) none 4= [0,1,2]:=by decide+kernel
theorem H4:kQ none (some 1) none 1= [0]∧kQ none (some 1) none 2= [0]∧kQ none (some 1) none 3= [0]:=by decide+kernel
theorem RI:kQ none none (some (-1)) 2= [1,0]∧kQ none none (some (-1)) 3= [2,1,0]:=by decide+kernel
theorem dQ.el{n:Nat}{l:K3}(h:dQ n l):El l.pv:=⟨_,_,_,rfl,.inl ⟨_,rfl⟩,h.2.2⟩
section
abbrev ER:CS:=SG
end
structure Fq(ρ:aO)(r:String)(C Pm nt:PV):Prop where
 ru:ρ "rule"=some (.str r)
 cl:ρ "clause"=some C
 pr:ρ "premises"=some Pm
 no:ρ "note"=some nt
section
variable{ρ ai:aO}{σ aq τ av:ah}{cells:List Int}{n many N:Nat}{r:String}{ks:List K3}{ps:List PV}{nt:PV}
theorem Ep{e a b d:CE}{l:List PV}{lo hi st:Option Int}{x y z:PV}(h:e ρ σ=some (.tup l,σ))(h1:a ρ σ=some (x,σ))(h2:b ρ σ=some (y,σ))(h3:d ρ σ=some (z,σ))(p1:tm x=some lo)(p2:tm y=some hi)(p3:tm z=some st)(f9:st≠some 0)(hz:(ni l (kQ lo hi st l.length)).length≤100000):jw e a b d ρ σ=some (.tup (ni l (kQ lo hi st l.length)),σ):=by
 refine(bb h).trans ((bb h1).trans ((bb h2).trans ((bb h3).trans ((bb p1).trans ((bb p2).trans ((bb p3).trans ?_))))));rw[aS f9];exact aP hz
theorem kX{b:Int}(h:ρ "bend"=some (.int b))(k:Int){t:Bool}(ht:decide (b=k)=t):aJ bA (af "bend") (aw k) ρ σ=some (t,σ):=aX (aj h) rfl ((gL _ _).trans (bV some ht))
theorem abm{a:K3}{l:List K3}:fN many (.tup ((a::l).map K3.pv++ [a.pv]))=false:=by
 rw[(by simp:(a::l).map K3.pv++ [a.pv]=((a::l)++ [a]).map K3.pv)];unfold fN;dsimp only;rw[sA];have:rK ((a::l)++ [a])=false:=by
  unfold rK;rw[lL,NP];intro h;have:=(List.pairwise_append.mp h).2.2 a (.head _) a (.head _);rw[w9]at this;(first|exact aQ this|exact dA this|exact cL this)
 show(_&&rK ((a::l)++ [a]))=false;rw[this,Ku]
theorem Er{es:List PV}{p:PV}(hp:p∈es)(h:nD many p=false):fN many (.tup es)=false:=by
 unfold fN;dsimp only;have:es.all (nD many)=false:=by
  rw[List.all_eq_false];exact⟨p,hp,by rw[h];decide⟩
 rw[this,uB]
theorem ac1(cC:cells.length≤1000)(hn:n+10≤10000)(hm:2≤many∧many≤3){b:Int}(F:Fq ρ r (bh ks) (.tup ps) nt)(hb:ρ "bend"=some (.int b))(xy:ρ "many"=some (.int many))(afu:ρ "number"=some (.int N))(ht:ρ "tape"=some (.loc 0))(hk:∀l∈ks,dQ many l)(hz:ks.length≤3)(jH:∀p∈ps,∃i,p= .int i)(mI:ps.length≤10):
 ∃ai C Pm fO n',ER ρ (aH cells n::av)=some (.next,ai,aH cells n'::av)∧Fq ai r C Pm fO∧Cl C∧(fN many C=true→(l9 C).length≤3)∧Pr Pm∧(fO=nt∨Nt fO)∧n'≤n+1:=by
 have hE:∀p∈ks.map K3.pv,El p:=λp hp=>by obtain⟨l,hl,rfl⟩:=dR.mp hp;exact dQ.el (hk l hl)
 have Ja:Cl (bh ks):=⟨_,.inl rfl,by rw[bB];exact ao hz (aK rfl),hE⟩;have B7:fN many (bh ks)=true→(l9 (bh ks)).length≤3:=λz=>by rw[vb];exact hz
 have r6:Pr (.tup ps):=⟨ps,.inl rfl,ao mI (aK rfl),λp hp=> .inl (jH p hp)⟩;have vJ:∀{C:PV},Fq (ρ.set "clause" C) r C (.tup ps) nt:=λ{C}=>⟨F.ru,rfl,F.pr,F.no⟩;by_cases b2:b=2
 ·cases ks with
  |nil=>
   refine⟨ρ.set "clause" (.tup [.tup [.int 0,.str "<",.int 1]]),_,_,_,n,(cT (kX hb 2 (bN b2))).trans ((aR (cf ((gC (aX (aj F.cl) rfl (by rfl))).trans rfl))).trans rfl),vJ,⟨_,.inl rfl,by decide,λp hp=> ?_⟩,λh=> ?_,r6,.inl rfl,bR _ 1⟩
   ·rw[fz]at hp;subst hp;exact⟨_,_,_,rfl,.inl ⟨_,rfl⟩,by decide,by decide⟩
   ·have:fN many (.tup [.tup [.int 0,.str "<",.int 1]])=false:=Er (p:= .tup [.int 0,.str "<",.int 1]) (.head _) (by show(_&&decide ("<"∈signs))=false;rw[show decide ("<"∈signs)=false from by decide,Ku]);rw[this]at h;(first|exact aQ h|exact dA h|exact cL h)
  |cons a l=>
   have bJ:(a::l).length=1∨(a::l).length=2∨(a::l).length=3:=by simp only[jb]at hz⊢;lia
   have ug:kQ none (some 1) none ((a::l).map K3.pv).length= [0]:=by
    rw[bB];rcases bJ with h|h|h<;>rw[h]
    ·exact H4.1
    ·exact H4.2.1
    ·exact H4.2.2
   have hs:jw (af "clause") cU (aw 1) cU ρ (aH cells n::av)=some (.tup [a.pv],aH cells n::av):=by
    have:=Ep (lo:=none) (hi:=some 1) (st:=none) (aj (σ:=aH cells n::av) F.cl) (a:=cU) (b:=aw 1) (d:=cU) rfl rfl rfl rfl rfl rfl (by decide) (by rw[ug];exact aK rfl);rw[ug]at this;exact this
   refine⟨ρ.set "clause" (.tup ((a::l).map K3.pv++ [a.pv])),_,_,_,n,(cT (kX hb 2 (bN b2))).trans ((aR (cf ((iJ (aX (y:= .tup []) (aj F.cl) rfl (tq (n:=2) (m:=1) (by exact iA _) rfl (by decide) (by simp[bh])))).trans ((da (aj F.cl) hs).trans (aP (by simp only[bB,jb,nR]at hz⊢;lia)))))).trans rfl),vJ,⟨_,.inl rfl,by simp only[oO,bB,jb,nR]at hz⊢;lia,λp hp=> ?_⟩,(λh=>by rw[abm]at h;(first|exact aQ h|exact dA h|exact cL h)),r6,.inl rfl,bR _ 1⟩;rcases uy.mp hp with h|h
   ·exact hE p h
   ·rw[fz]at h;exact h▸dQ.el (hk a (.head _))
 ·have e2:=kX (σ:=aH cells n::av) hb 2 (bT b2);by_cases b3:b=3
  ·have e3:=kX (σ:=aH cells n::av) hb 3 (bN b3);have hl:aN cq [af "clause"] ρ (aH cells n::av)=some (.int ks.length,aH cells n::av):=(bp (aV (aj F.cl))).trans ((ko (by rw[bB];exact ao (bH hz 1) (aK rfl))).trans (by rw[bB]));by_cases h1:1<ks.length
   ·have ug:kQ none none (some (-1)) (ks.map K3.pv).length= [1,0]∨kQ none none (some (-1)) (ks.map K3.pv).length= [2,1,0]:=by
     rw[bB];have:ks.length=2∨ks.length=3:=by lia
     rcases this with h|h<;>rw[h]
     ·exact .inl RI.1
     ·exact .inr RI.2
    have bJ:(ni (ks.map K3.pv) (kQ none none (some (-1)) (ks.map K3.pv).length)).length≤3:=by
     refine ao (Uc _ _) ?_;rcases ug with h|h<;>rw[h]<;>decide
    have hs:=Ep (lo:=none) (hi:=none) (st:=some (-1)) (aj (σ:=aH cells n::av) F.cl) (a:=cU) (b:=cU) (d:=mh l6 (aw 1)) rfl rfl rfl rfl rfl rfl (by decide) (ao bJ (aK rfl));have nq:∀p∈ni (ks.map K3.pv) (kQ none none (some (-1)) (ks.map K3.pv).length),p∈ks.map K3.pv:=λp hp=>by
     refine aT (List.mem_filterMap.mp hp) λi z h=> ?_;exact lM h
    generalize ni (ks.map K3.pv) (kQ none none (some (-1)) (ks.map K3.pv).length)=es at bJ hs nq;refine⟨ρ.set "clause" (.tup es),_,_,_,n,(bZ e2).trans ((aR ((cT e3).trans ((aR (cf ((iJ (aX hl rfl (by show some (decide _)=_;rw[bN (gg.mpr h1)]))).trans hs))).trans rfl))).trans rfl),vJ,⟨_,.inl rfl,ao bJ (aK rfl),λp hp=>hE p (nq p hp)⟩,λh=> ?_,r6,.inl rfl,bR _ 1⟩;refine l5 (AA ⟨es,.inl rfl,ao bJ (aK rfl),λp hp=>hE p (nq p hp)⟩ h) λks2 e z h3 z=> ?_;rw[e,vb];have:=bV su (PV.tup.inj e);rw[bB]at this;exact ao (bM this.symm) bJ
   ·refine⟨ρ.set "clause" (.tup [.tup [.bool true,.str "=",.int 0]]),_,_,_,n,(bZ e2).trans ((aR ((cT e3).trans ((aR (cf ((gC (aX hl rfl (by show some (decide _)=_;rw[bT (lQ.mpr (jJ.mpr (eP.mp h1)))]))).trans rfl))).trans rfl))).trans rfl),vJ,⟨_,.inl rfl,by decide,λp hp=> ?_⟩,λh=> ?_,r6,.inl rfl,bR _ 1⟩
    ·rw[fz]at hp;subst hp;exact⟨_,_,_,rfl,.inr ⟨_,rfl⟩,by decide,by decide⟩
    ·have:fN many (.tup [.tup [.bool true,.str "=",.int 0]])=false:=Er (p:= .tup [.bool true,.str "=",.int 0]) (.head _) rfl;rw[this]at h;(first|exact aQ h|exact dA h|exact cL h)
  ·have e3:=kX (σ:=aH cells n::av) hb 3 (bT b3);by_cases b4:b=4
   ·have e4:=kX (σ:=aH cells n::av) hb 4 (bN b4);exact⟨ρ.set "clause" (.lst (ks.map K3.pv)),_,_,_,n,(bZ e2).trans ((aR ((bZ e3).trans ((aR ((cT e4).trans ((aR (cf ((bp (aV (aj F.cl))).trans (aP (show(ks.map K3.pv).length≤100000 by rw[bB];exact ao hz (aK rfl)))))).trans rfl))).trans rfl))).trans rfl),vJ,⟨_,.inr rfl,by rw[bB];exact ao hz (aK rfl),hE⟩,(λh=>by cases h),r6,.inl rfl,bR _ 1⟩
   ·have e4:=kX (σ:=aH cells n::av) hb 4 (bT b4);by_cases b5:b=5
    ·have e5:=kX (σ:=aH cells n::av) hb 5 (bN b5);refine⟨ρ.set "clause" (.tup (ks.map K3.pv++ [.tup [.int many,.str ">=",.int 0]])),_,_,_,n,(bZ e2).trans ((aR ((bZ e3).trans ((aR ((bZ e4).trans ((aR ((cT e5).trans ((aR (cf ((da (aj F.cl) (d3 (aV (d3 (bC (aj xy) rfl))))).trans (aP (by simp only[bB,jb,nR];lia)):bU dj (af "clause") (bg [(bg [(af "many"),(a5 ">="),(aw 0)])]) ρ (aH cells n::av)=some (.tup (ks.map K3.pv++ [.tup [.int many,.str ">=",.int 0]]),aH cells n::av)))).trans rfl))).trans rfl))).trans rfl))).trans rfl),vJ,⟨_,.inl rfl,by simp only[oO,bB,jb,nR];lia,λp hp=> ?_⟩,λh=> ?_,r6,.inl rfl,bR _ 1⟩
     ·rcases uy.mp hp with h|h
      ·exact hE p h
      ·rw[fz]at h;clear hp;subst h;exact⟨_,_,_,rfl,.inl ⟨_,rfl⟩,by decide,by decide⟩
     ·have:fN many (.tup (ks.map K3.pv++ [.tup [.int many,.str ">=",.int 0]]))=false:=Er (p:= .tup [.int many,.str ">=",.int 0]) (by simp) (by show(decide (0≤(many:Int)∧(many:Int)<(many:Nat))&&_)=false;rw[bT (by lia),uB]);rw[this]at h;(first|exact aQ h|exact dA h|exact cL h)
    ·have e5:=kX (σ:=aH cells n::av) hb 5 (bT b5);by_cases b6:b=6
     ·have e6:=kX (σ:=aH cells n::av) hb 6 (bN b6);refine aT (iE (ρ:=ρ) (n:=n) (av:=av) cC (cQ (b:=10) (ao hn (aK rfl))) (w:=4) (by decide) (e:=aw 4) ht (λz=>rfl)) λv t1 hv=> ?_;have ap:∀p,dj (aH cells n::av) (.tup ps) (.tup [p])=some (.tup (ps++ [p]),aH cells n::av):=λp=>aP (by simp only[jb,nR];lia);have el:bg [(bU dj (af "premises") (bg [(af "number")])),(aN jT [(af "premises")]),(bU dj (af "premises") (bg [(iG true)])),PA] ρ (aH cells n::av)=some (.tup [.tup (ps++ [.int N]),.lst ps,.tup (ps++ [.bool true]),.tup (ps++ [.int (-1)])],aH cells n::av):=
       d3 (bC ((da (aj F.pr) (d3 (aV (aj afu)))).trans (ap _)) (bC ((bp (aV (aj F.pr))).trans (aP (show ps.length≤100000 by exact ao mI (aK rfl)))) (bC ((da (aj F.pr) rfl).trans (ap _)) (aV ((da (aj F.pr) rfl).trans (ap _))))))
      have fin:∀Pm,fZ (aH cells (n+1)::av) (.tup [.tup (ps++ [.int N]),.lst ps,.tup (ps++ [.bool true]),.tup (ps++ [.int (-1)])]) (.int v)=some Pm→Pr Pm→∃ai C Pm fO n',ER ρ (aH cells n::av)=some (.next,ai,aH cells n'::av)∧Fq ai r C Pm fO∧Cl C∧(fN many C=true→(l9 C).length≤3)∧Pr Pm∧(fO=nt∨Nt fO)∧n'≤n+1:=λPm hs hP=>
       ⟨ρ.set "premises" Pm,bh ks,Pm,nt,n+1,(bZ e2).trans ((aR ((bZ e3).trans ((aR ((bZ e4).trans ((aR ((bZ e5).trans ((aR ((cT e6).trans ((aR (cf (dO el t1 hs))).trans rfl))).trans rfl))).trans rfl))).trans rfl))).trans rfl),⟨F.ru,F.cl,rfl,F.no⟩,Ja,B7,hP,.inl rfl,cH _⟩
      have Jb:∀p,(∃i,p= .int i)∨(∃b,p= .bool b)→Pr (.tup (ps++ [p])):=λp hp=>⟨_,.inl rfl,by simp only[oO,jb,nR];lia,λq hq=>by
       rcases uy.mp hq with h|h
       ·exact .inl (jH q h)
       ·rw[fz]at h;exact h▸hp⟩
      have:v=0∨v=1∨v=2∨v=3:=by lia
      clear t1 hv;rcases this with rfl|rfl|rfl|rfl
      ·exact fin _ rfl (Jb _ (.inl ⟨_,rfl⟩))
      ·exact fin _ rfl ⟨ps,.inr rfl,ao mI (aK rfl),λp hp=> .inl (jH p hp)⟩
      ·exact fin _ rfl (Jb _ (.inr ⟨_,rfl⟩))
      ·exact fin _ rfl (Jb _ (.inl ⟨_,rfl⟩))
     ·have e6:=kX (σ:=aH cells n::av) hb 6 (bT b6);by_cases b7:b=7
      ·refine aT (iE (ρ:=ρ) (n:=n) (av:=av) cC (cQ (b:=10) (ao hn (aK rfl))) (w:=5) (by decide) (e:=aw 5) ht (λz=>rfl)) λv t1 hv=> ?_;have em:xr (aH cells n::av) (.tup [.bool false]) (.int many)=some (.tup (jI many (.bool false)),aH cells n::av):=by
        have h0:(if 2≤(many:Int)∧(many:Int)≤1000∧ [PV.bool false].length=1 then some (PV.tup (jI (many:Int).toNat [PV.bool false]).flatten,aH cells n::av)else none)=some (.tup (jI many (.bool false)),aH cells n::av):=by
         rw[aP ⟨jJ.mpr hm.1,jJ.mpr (ao hm.2 (aK rfl)),rfl⟩];have:many=2∨many=3:=by lia
         clear hm xy hk B7;rcases this with rfl|rfl<;>rfl
        exact h0
       have el:bg [(iG true),(mh l6 (aw 1)),(a5 "seen"),(bg [(aw 0)]),(bU xr (bg [(iG false)]) (af "many"))] ρ (aH cells n::av)=some (.tup [.bool true,.int (-1),.str "seen",.tup [.int 0],.tup (jI many (.bool false))],aH cells n::av):=
        d3 (bC rfl (bC rfl (bC rfl (bC rfl (aV ((da rfl (aj xy)).trans em))))))
       have fin:∀p,fZ (aH cells (n+1)::av) (.tup [.bool true,.int (-1),.str "seen",.tup [.int 0],.tup (jI many (.bool false))]) (.int v)=some p→Nt p→∃ai C Pm fO n',ER ρ (aH cells n::av)=some (.next,ai,aH cells n'::av)∧Fq ai r C Pm fO∧Cl C∧(fN many C=true→(l9 C).length≤3)∧Pr Pm∧(fO=nt∨Nt fO)∧n'≤n+1:=λp hs hP=>
        ⟨ρ.set "note" p,bh ks,.tup ps,p,n+1,(bZ e2).trans ((aR ((bZ e3).trans ((aR ((bZ e4).trans ((aR ((bZ e5).trans ((aR ((bZ e6).trans ((aR ((cT (kX (σ:=aH cells n::av) hb 7 (bN b7))).trans ((aR (cf (dO el t1 hs))).trans rfl))).trans rfl))).trans rfl))).trans rfl))).trans rfl))).trans rfl),⟨F.ru,F.cl,F.pr,rfl⟩,Ja,B7,r6,.inr hP,cH _⟩
       have:v=0∨v=1∨v=2∨v=3∨v=4:=by lia
       clear t1 hv;rcases this with rfl|rfl|rfl|rfl|rfl
       ·exact fin (.bool true) rfl (.inr (.inl ⟨true,rfl⟩))
       ·exact fin (.int (-1)) rfl (.inl ⟨-1,rfl⟩)
       ·exact fin (.str "seen") rfl (.inr (.inr (.inl ⟨_,rfl⟩)))
       ·exact fin (.tup [.int 0]) rfl (.inr (.inr (.inr ⟨_,rfl,by decide,λp hp=>by rw[fz]at hp;exact .inl ⟨0,hp,by decide⟩⟩)))
       ·exact fin (.tup (jI many (.bool false))) rfl (.inr (.inr (.inr ⟨_,rfl,List.length_replicate▸hm.2,λp hp=> .inr ⟨false,List.eq_of_mem_replicate hp⟩⟩)))
      ·exact⟨ρ,bh ks,.tup ps,nt,n,(bZ e2).trans ((aR ((bZ e3).trans ((aR ((bZ e4).trans ((aR ((bZ e5).trans ((aR ((bZ e6).trans ((aR ((bZ (kX (σ:=aH cells n::av) hb 7 (bT b7))).trans rfl)).trans rfl))).trans rfl))).trans rfl))).trans rfl))).trans rfl),F,Ja,B7,r6,.inl rfl,bR _ 1⟩
end
def Bad(p:PV):Prop:=(∃l,p= .lst l)∨∃l,p= .tup l∧l.length<1000∧l.length≠4
theorem ad8{C:PV}(h:Cl C)(k:Nat):PV.lt k C=true:=by
 (refine cY h λes hC z he=> ?_;clear h);have:eE k es=true:=jO.mpr λp hp=>by
  (refine oy (he p hp) λx s v gR hx z=> ?_;subst gR);clear hp;rcases hx with⟨i,rfl⟩|⟨b,rfl⟩<;>rfl
 rcases hC with rfl|rfl<;>exact this
theorem ad9{C:PV}(h:Pr C)(k:Nat):PV.lt k C=true:=by
 (refine cY h λes hC z he=> ?_;clear h);have:eE k es=true:=jO.mpr λp hp=>A6 (he p hp) k;rcases hC with rfl|rfl<;>exact this
theorem PY{C:PV}(h:Nt C)(k:Nat):PV.lt k C=true:=by
 rcases h with⟨i,rfl⟩|⟨b,rfl⟩|⟨s,rfl⟩|⟨l,rfl,_,hl⟩
 ·rfl
 ·rfl
 ·rfl
 ·show eE k l=true;exact jO.mpr λp hp=>A6 (by rcases hl p hp with⟨i,h,_⟩|h;exact .inl ⟨i,h⟩;exact .inr h) k
section
variable{ρ ai:aO}{σ aq τ av:ah}{cells:List Int}{n many N:Nat}{r:String}{ks:List K3}{ps:List PV}{nt:PV}
theorem ac2{l:List PV}(h:l.length≤100000):jT [.tup l] σ=some (.lst l,σ):=aP h
theorem ac3(cC:cells.length≤1000)(hn:n+20≤10000)(hm:2≤many∧many≤3)(hk:∀l∈ks,dQ many l)(hz:ks.length≤3)(jH:∀p∈ps,∃i,p= .int i)(mI:ps.length≤10)(Tj:∀k,PV.lt k nt=true):
 ∃out n',zw [.loc 0,.tup [.str r,bh ks,.tup ps,nt],.int many,.int N] (aH cells n::av)=some (out,aH cells n'::av)∧n'≤n+2∧(Bad out∨∃C Pm fO,out= .tup [.str r,C,Pm,fO]∧Cl C∧(fN many C=true→(l9 C).length≤3)∧Pr Pm∧(fO=nt∨Nt fO)):=by
 generalize f9:PV.tup [.str r,bh ks,.tup ps,nt]=st;have RJ:∀k,PV.lt k st=true:=λk=>by
  rw[←f9];show eE k _=true;rw[jO];intro p hp;simp only[cG,ff,fg]at hp;rcases hp with rfl|rfl|rfl|rfl
  ·rfl
  ·exact xn k ks
  ·show eE k ps=true;exact jO.mpr λp hp=>by obtain⟨i,rfl⟩:=jH p hp;rfl
  ·exact Tj k
 generalize gQ:(bX ["tape","step","many","number"] [.loc 0,st,.int many,.int N] λz=>none)=a9;have g0:a9 "tape"=some (.loc 0):=gQ▸rfl;have g1:a9 "step"=some st:=by rw[←gQ];rfl
 refine aT (iE (ρ:=a9) (n:=n) (av:=av) cC (cQ (b:=20) (ao hn (aK rfl))) (w:=16) (by decide) (e:=aw 16) g0 (λz=>rfl)) λb t1 hb=> ?_;generalize fv:(((((a9.set "rule" (.str r)).set "clause" (bh ks)).set "premises" (.tup ps)).set "note" nt).set "bend" (.int b))=aA;have s1:cW PB (gP [tJ,(a8 "bend")]) a9 (aH cells n::av)=some (.next,aA,aH cells (n+1)::av):=by
  rw[←fv];exact jA (d3 (bC (aj g1) (aV t1))) (f9▸rfl)
 have F:Fq aA r (bh ks) (.tup ps) nt:=by rw[←fv];exact⟨rfl,rfl,rfl,rfl⟩
 have q1:aA "step"=some st:=by rw[←fv];exact g1
 have q2:aA "bend"=some (.int b):=by rw[←fv];rfl
 have q3:aA "many"=some (.int many):=by rw[←fv,←gQ];rfl
 have q4:aA "number"=some (.int N):=by rw[←fv,←gQ];rfl
 have fin:∀{out:PV} {n':Nat},Rt LF a9 (aH cells n::av) out (aH cells n'::av)→PV.lt (av.length+1) out=true→zw [.loc 0,st,.int many,.int N] (aH cells n::av)=some (out,aH cells n'::av):=λ{out n'} R dD=>by
  (refine bG R λai e=> ?_;clear R);have:=uV (cells:=cells) (n:=n) (av:=av) n' [];rw[gy]at this;exact mY rfl (gQ▸e) rfl this dD (qc (l:=aH cells n'::av))
 have tb:aJ hU (af "bend") (aw 2) aA (aH cells (n+1)::av)=some (decide (b<2),aH cells (n+1)::av):=aX (aj q2) rfl rfl;by_cases qU:b<2
 ·rw[bN qU]at tb;by_cases To:b=0
  ·refine⟨.lst [.str r,bh ks,.tup ps,nt],n+1,fin (cg s1 (dg tb (bW ((iJ (kX q2 0 (bN To))).trans ((bp (aV (aj q1))).trans ?_))))) ?_,bR _ 1,.inl (.inl ⟨_,rfl⟩)⟩
   ·rw[←f9];exact ac2 (l:= [.str r,bh ks,.tup ps,nt]) (aK rfl)
   ·have:=RJ (av.length+1);rw[←f9]at this;exact this
  ·have hs:jw (af "step") cU (aw 3) cU aA (aH cells (n+1)::av)=some (.tup [.str r,bh ks,.tup ps],aH cells (n+1)::av):=by
    have ug:kQ none (some 3) none [PV.str r,bh ks,.tup ps,nt].length= [0,1,2]:=aft;have:=Ep (lo:=none) (hi:=some 3) (st:=none) (aj (σ:=aH cells (n+1)::av) (by rw[q1,f9]:aA "step"=some (.tup [.str r,bh ks,.tup ps,nt]))) (a:=cU) (b:=aw 3) (d:=cU) rfl rfl rfl rfl rfl rfl (by decide) (by rw[ug];exact aK rfl);rw[ug]at this;exact this
   refine⟨.tup [.str r,bh ks,.tup ps],n+1,fin (cg s1 (dg tb (bW ((gC (kX q2 0 (bT To))).trans hs)))) ?_,bR _ 1,.inl (.inr ⟨_,rfl,aK rfl,(λh=>by cases h)⟩)⟩;have:=RJ (av.length+1);rw[←f9]at this;exact jO.mpr λp hp=>(jO.mp (show eE (av.length+1) [PV.str r,bh ks,.tup ps,nt]=true from this)) p (by simp only[cG,ff,fg]at hp⊢;rcases hp with h|h|h<;>simp[h])
 ·rw[bT qU]at tb;refine aeu (ac1 (n:=n+1) (av:=av) (N:=N) (b:=b) cC (cQ (b:=9) (ao hn (aK rfl))) hm F q2 q3 q4 (fv▸g0) hk hz jH mI) λbL C Pm fO n' e1 F2 hC iz hP By qR=> ?_;refine⟨.tup [.str r,C,Pm,fO],n',fin (cg s1 (bq tb (cg e1 (bW (d3 (bC (aj F2.ru) (bC (aj F2.cl) (bC (aj F2.pr) (aV (aj F2.no)))))))))) ?_,qR,.inr ⟨C,Pm,fO,rfl,hC,iz,hP,By⟩⟩;show eE (av.length+1) _=true;rw[jO];intro p hp;simp only[cG,ff,fg]at hp;rcases hp with rfl|rfl|rfl|rfl
  ·rfl
  ·exact ad8 hC _
  ·exact ad9 hP _
  ·rcases By with rfl|h
   ·exact Tj _
   ·exact PY h _
end
structure p5(c:b8)(N:Nat)(r:String)(ks:List K3)(ps:List PV)(nt:PV):Prop where
 lit:∀l∈ks,dQ c.ds.length l
 len:ks.length≤3
 uh:∀p∈ps,∃i,p= .int i
 wg:ps.length≤10
 yv:∀k,PV.lt k nt=true
 nt:r="strike"∨r="better"∨r="seen"→Nt nt
section
abbrev csA:CS:=Rb
abbrev csB:CS:=Q9
end
structure Fs(ρ:aO)(many:Nat)(r:String)(ks:List K3)(ps:List PV)(nt:PV):Prop where
 tp:ρ "tape"=some (.loc 0)
 sc:ρ "scene"=some (.loc 1)
 st:ρ "steps"=some (.loc 3)
 mn:ρ "many"=some (.int many)
 ru:ρ "rule"=some (.str r)
 cl:ρ "clause"=some (bh ks)
 pr:ρ "premises"=some (.tup ps)
 no:ρ "note"=some nt
section
variable{ρ ai:aO}{σ aq τ av:ah}{cells:List Int}{n many N:Nat}{r:String}{ks:List K3}{ps:List PV}{nt:PV}{c:b8}{ap:Option (List Int)}{bl:List (List K3)}{aW:List Sp}
theorem qn(S:qZ (aH cells n::av) c ap bl aW)(m:Nat):qZ (aH cells m::av) c ap bl aW:=⟨S.o1,S.o2,S.o3⟩
theorem Es(cC:cells.length≤1000)(hn:n≤10000){w:Int}(hw:0<w){e:CE}(h1:ρ "tape"=some (.loc 0))(he:e ρ (aH cells n::av)=some (.int w,aH cells n::av)):∃v,aN jK [af "tape",e] ρ (aH cells n::av)=some (.int v,aH cells (n+1)::av)∧0≤v∧v<w:=by
 refine aT (OI (av:=av) cC hn hw) λv h hv=> ?_;exact⟨v,(bp (bC (aj h1) (aV he))).trans h,hv⟩
theorem D9{c:b8}(K:c.ok){p:List Int}(hp:p∈c.points):∀v∈p,-1≤v∧v≤2:=by
 intro v hv;refine cM (sU.mp hp) λh1 h2=> ?_;obtain⟨i,hi,rfl⟩:=JN.mp hv;have h3:=h2 i hi (ao hi (bM h1));have h4:i<c.ds.length:=by unfold b8.b9 at h1;rw[bB]at h1;exact ao hi (bM h1)
 have e:c.b9[i]'(ao hi (bM h1))=vals c.ds[i]:=yS vals;rw[e]at h3;exact(pf _ (K.dd _ (mN h4)).1).2.2 _ h3
theorem DE{c:b8}(K:c.ok):0<c.points.length:=by
 have ex:∃p,p∈c.points:=by
  refine⟨c.ds.map λd=>(vals d).headD 0,sU.mpr ⟨by unfold b8.b9;simp,λi h h2=> ?_⟩⟩;have h3:i<c.ds.length:=by rw[bB]at h;exact h
  have e:c.b9[i]=vals c.ds[i]:=yS vals;rw[e,yS];refine bG ((λd hd=>T7 _ λh=>(K.dd d hd).2 (xm d (K.dd d hd).1 h)) c.ds[i] (mN h3)) λv hv=> ?_;cases h4:vals c.ds[i]with
  |nil=>rw[h4]at hv;cases hv
  |cons a l=>simp
 (refine bG ex λp hp=> ?_;clear ex);exact List.length_pos_of_mem hp
theorem aea(K:c.ok)(cC:cells.length≤1000)(hn:n+10≤10000)(S:qZ (aH cells n::av) c ap bl aW)(F:Fs ρ c.ds.length r ks ps nt)(D:p5 c N "guess" ks ps nt):
 ∃ai d5 fO n',csA ρ (aH cells n::av)=some (.next,ai,aH cells n'::av)∧Fs ai c.ds.length r d5 ps fO∧p5 c N (if r="strike" then"strike" else"guess") d5 ps fO∧n'≤n+3:=by
 by_cases hr:r="strike"
 ·rw[aP hr];refine aT (iE (ρ:=ρ) (n:=n) (av:=av) cC (cQ (b:=10) (ao hn (aK rfl))) (w:=2) (by decide) (e:=aw 2) F.tp (λz=>rfl)) λv t1 hv=> ?_;have F1:Fs (ρ.set "note" (.int v)) c.ds.length r ks ps (.int v):=⟨F.tp,F.sc,F.st,F.mn,F.ru,F.cl,F.pr,rfl⟩;refine aT (iE (ρ:=ρ.set "note" (.int v)) (n:=n+1) (av:=av) cC (cQ (b:=9) (ao hn (aK rfl))) (w:=2) (by decide) (e:=aw 2) F1.tp (λz=>rfl)) λu t2 hu=> ?_;by_cases h1:u=1
  ·have pe:∀m,aG (af "scene") (a5 "points") (ρ.set "note" (.int v)) (aH cells m::av)=some (.lst (c.points.map bf),aH cells m::av):=λm=>lj F1.sc (qn S m).o1 rfl;have uc:=zy K;refine aT (Es (ρ:=ρ.set "note" (.int v)) (n:=n+1+1) (av:=av) cC (cQ (b:=8) (ao hn (aK rfl))) (gg.mpr (DE K)) F1.tp ((bp (aV (pe _))).trans ((qy (by rw[bB];exact ao (bH uc 1) (aK rfl))).trans (by rw[bB])))) λw t3 hw=> ?_;obtain⟨i,rfl⟩:∃i:Nat,w=i:=⟨w.toNat,by lia⟩;have hi:i<c.points.length:=gg.mp hw.2;have oH:=mN hi;refine bG (td K (o9 oH)) λq hq=> ?_;have vK:=D9 K oH;generalize yg:c.points[i]=p at hq vK;have e1:aG rH (aN jK [(af "tape"),(aN cq [rH])]) (ρ.set "note" (.int v)) (aH cells (n+1+1)::av)=some (bf p,aH cells (n+1+1+1)::av):=
    gA (i:=i) (pe _) t3 (by rw[eM,cF hi,yg];rfl) (ao (ao (gg.mp hw.2) uc) (aK rfl))
   have lK:bf p= .lst (.int (p.getD 0 0):: .int (p.getD 1 0)::q.map .int):=by
    conv=>lhs;rw[hq]
    rfl
   have ha:p.getD 0 0∈p:=by rw[hq];simp
   have hbm:p.getD 1 0∈p:=by rw[hq];simp
   have ra:=vK _ ha;have rb:=vK _ hbm;generalize p.getD 0 0=a at lK ra;generalize p.getD 1 0=b at lK rb;have s2:bx "clause" Ra ((ρ.set "note" (.int v)).set "point" (bf p)) (aH cells (n+1+1+1)::av)=some (.next,((ρ.set "note" (.int v)).set "point" (bf p)).set "clause" (bh [(0,"!=",a),(1,"!=",b)]),aH cells (n+1+1+1)::av):=by
    have Tp:((ρ.set "note" (.int v)).set "point" (bf p)) "point"=some (.lst (.int a:: .int b::q.map .int)):=by rw[←lK];rfl
    exact cf (d3 (bC (d3 (bC rfl (bC rfl (aV (gA (i:=0) (aj Tp) rfl rfl (by decide)))))) (aV (d3 (bC rfl (bC rfl (aV (gA (i:=1) (aj Tp) rfl rfl (by decide)))))))))
   refine⟨_,_,_,_,(cT (cK F.ru (bN hr))).trans ((aR (cf t1)).trans ((aR ((cT (aX t2 rfl ((gL _ _).trans (by rw[bN h1])))).trans ((aR (cf e1)).trans ((aR s2).trans rfl)))).trans rfl)),(⟨F1.tp,F1.sc,F1.st,F1.mn,F1.ru,rfl,F1.pr,F1.no⟩:Fs (((ρ.set "note" (.int v)).set "point" (bf p)).set "clause" (bh [(0,"!=",a),(1,"!=",b)])) c.ds.length r [(0,"!=",a),(1,"!=",b)] ps (.int v)),⟨λl hl=> ?_,aK rfl,D.uh,D.wg,λz=>rfl,λz=> .inl ⟨v,rfl⟩⟩,cH _⟩;have vW:=K.len;simp only[cG,ff,fg]at hl;rcases hl with rfl|rfl
   ·exact⟨⟨by show(0:Int)≤0;decide,by show(0:Int)<c.ds.length;omega⟩,.inr (.inr (.inr rfl)),dS (gV (by decide) ra.1),dS (i9 ra.2 (by decide))⟩
   ·exact⟨⟨by show(0:Int)≤1;decide,by show(1:Int)<c.ds.length;lia⟩,.inr (.inr (.inr rfl)),dS (gV (by decide) rb.1),dS (i9 rb.2 (by decide))⟩
  ·exact⟨_,ks,_,_,(cT (cK F.ru (bN hr))).trans ((aR (cf t1)).trans ((aR ((bZ (aX t2 rfl ((gL _ _).trans (by rw[bT h1])))).trans rfl)).trans rfl)),F1,(⟨D.lit,D.len,D.uh,D.wg,λz=>rfl,λz=> .inl ⟨v,rfl⟩⟩),bR _ 1⟩
 ·rw[aS hr];exact⟨ρ,ks,nt,n,(bZ (cK F.ru (bT hr))).trans rfl,F,D,bR _ 3⟩
theorem aeb(cC:cells.length≤1000)(hn:n+10≤10000)(S:qZ (aH cells n::av) c ap bl aW)(hg:∀s∈aW,vq c s∧s.ks.length≤3)(yw:0<aW.length∧aW.length≤100){r':String}(F:Fs ρ c.ds.length r ks [] nt)(D:p5 c N r' ks [] nt):
 ∃ai d5 qG n',csB ρ (aH cells n::av)=some (.next,ai,aH cells n'::av)∧Fs ai c.ds.length r d5 qG nt∧p5 c N r' d5 qG nt∧n'≤n+6:=by
 by_cases hr:r="nogood"
 ·refine aT (iE (ρ:=ρ) (n:=n) (av:=av) cC (cQ (b:=10) (ao hn (aK rfl))) (w:=4) (by decide) (e:=aw 4) F.tp (λz=>rfl)) λm t1 hm=> ?_;have bJ:(fC 0 m).length≤3:=by unfold fC;simp;lia
  obtain⟨vs,n',e1,e2,e3,e4⟩:=Eo (ρ:=ρ) (cells:=cells) (av:=av) (P:=λv=>∃i:Nat,v= .int i∧i<aW.length) (B:=n+5) 1 (x:="lap") (e:=aN jK [af "tape",aN cq [af "steps"]]) (fC 0 m) (dq ((bp (aV t1)).trans rfl:aN gz [aN jK [af "tape",aw 4]] ρ (aH cells n::av)=some (.d7 0 m,aH cells (n+1)::av)) (mX (by decide) (⟨(dS (gV (by decide) hm.1)),(dS (oX hm.2 (by decide)))⟩))) (ao bJ (aK rfl)) (by omega) (λv h=>by obtain⟨i,rfl,_⟩:=h;rfl) (λy z n' l ai qR kP z=>by
   have o3:(aH cells n'::(av++ [PO.list l]))[3]? =some (.list (aW.map Sp.pv)):=fB (τ:= [PO.list l]) (qn S n').o3;refine aT (Es (av:=av++ [PO.list l]) cC (cQ (b:=5) (ao (ao (bH qR 5) hn) (aK rfl))) (gg.mpr yw.1) ((kP _ (by decide) (by decide)).trans F.tp) ((bp (aV (aj ((kP _ (by decide) (by decide)).trans F.st)))).trans ((Ap o3 (by rw[bB];exact ao (bH yw.2 1) (aK rfl))).trans (by rw[bB])))) λv h1 h2=> ?_;exact⟨.int v,n'+1,h1,⟨v.toNat,by rw[JR h2.1],by omega⟩,cH _⟩)
  have s1:bx "premises" Q8 ρ (aH cells n::av)=some (.next,ρ.set "premises" (.tup vs),aH cells n'::av):=cf ((bp (aV e1)).trans (aP (by lia)));have F1:Fs (ρ.set "premises" (.tup vs)) c.ds.length r ks vs nt:=⟨F.tp,F.sc,F.st,F.mn,F.ru,F.cl,rfl,F.no⟩;have D1:p5 c N r' ks vs nt:=⟨D.lit,D.len,λp hp=>by obtain⟨i,h,_⟩:=e3 p hp;exact⟨i,h⟩,ao (ao (bM e2) bJ) (aK rfl),D.yv,D.nt⟩;have t2:aJ cA (af "premises") (bg []) (ρ.set "premises" (.tup vs)) (aH cells n'::av)=some (decide (vs≠ []),aH cells n'::av):=aX (aj F1.pr) rfl (D7 (λp hp=>by obtain⟨i,h,_⟩:=e3 p hp;exact .inl ⟨i,h⟩) rfl (ao (ao (bM e2) bJ) (aK rfl)));by_cases hv:vs= []
  ·rw[bT (λh=>h hv)]at t2;exact⟨_,ks,vs,n',(cT (cK F.ru (bN hr))).trans ((aR s1).trans ((aR ((bZ (fY t2)).trans rfl)).trans rfl)),F1,D1,by lia⟩
  ·rw[bN hv]at t2;refine aT (iE (ρ:=ρ.set "premises" (.tup vs)) (n:=n') (av:=av) cC (by lia) (w:=3) (by decide) (e:=aw 3) F1.tp (λz=>rfl)) λu t3 hu=> ?_;have t4:=aX (f:=bA) (b:=aw 0) (y:= .int 0) t3 rfl (gL u 0);by_cases h0:u=0
   ·rw[bN h0]at t4;refine aT (e3 _ (List.getLast_mem hv)) λi hl hi=> ?_;have r5:aW[i]? =some aW[i]:=cF hi;have Jc:=hg aW[i] (mN hi);generalize aW[i]=x at r5 Jc;have s2:bx "clause" Pw (ρ.set "premises" (.tup vs)) (aH cells (n'+1)::av)=some (.next,(ρ.set "premises" (.tup vs)).set "clause" (bh x.ks),aH cells (n'+1)::av):=
     cf (dH (l:= [x.r,bh x.ks,x.p,x.nt]) (i:=1) (dO (aj F1.st) (dO (x:= .tup vs) (y:= .int (-1)) (aj F1.pr) rfl (Dl (by rw[TL hv,hl]))) (Mi (qn S _).o3 r5 (ao yw.2 (aK rfl)))) rfl rfl (by decide))
    exact⟨(ρ.set "premises" (.tup vs)).set "clause" (bh x.ks),x.ks,vs,n'+1,(cT (cK F.ru (bN hr))).trans ((aR s1).trans ((aR ((cT ((eJ t2).trans ((eJ t4).trans rfl))).trans ((aR s2).trans rfl))).trans rfl)),⟨F1.tp,F1.sc,F1.st,F1.mn,F1.ru,rfl,F1.pr,F1.no⟩,⟨Jc.1.lits,Jc.2,D1.uh,D1.wg,D1.yv,D1.nt⟩,by lia⟩
   ·rw[bT h0]at t4;exact⟨_,ks,vs,n'+1,(cT (cK F.ru (bN hr))).trans ((aR s1).trans ((aR ((bZ ((eJ t2).trans (fY t4))).trans rfl)).trans rfl)),F1,D1,by omega⟩
 ·exact⟨ρ,ks,[],n,(bZ (cK F.ru (bT hr))).trans rfl,F,D,bR _ 6⟩
end
theorem NU{n:Nat}:∀{vs:List PV},(∀v∈vs,∃l:K3,v=l.pv∧dQ n l)→∃ks:List K3,vs=ks.map K3.pv∧∀l∈ks,dQ n l
 | [],_=>⟨[],rfl,λz h=>by cases h⟩
 |v::vs,h=>by
  (refine aT (h v (.head _)) λl aM hl=> ?_;subst aM);(refine aT (NU (vs:=vs) λv hv=>h v (.tail _ ‹_›)) λks aM hk=> ?_;subst aM);exact⟨l::ks,rfl,λx hx=>by
   rcases cG.mp hx with rfl|hx
   ·exact hl
   ·exact hk x hx⟩
section
abbrev csC:CS:=SF
end
section
variable{ρ ai:aO}{σ aq τ av:ah}{cells:List Int}{n many N:Nat}{r:String}{ks:List K3}{ps:List PV}{nt:PV}{c:b8}{ap:Option (List Int)}{bl:List (List K3)}{aW:List Sp}
theorem ZO{c:b8}(K:c.ok){p:List Int}(hp:p∈c.points):Nt (.tup (p.map .int)):= .inr (.inr (.inr ⟨_,rfl,by rw[bB,o9 hp];have:=K.len;lia,λq hq=>by
 (refine aT (dR.mp hq) λv hv aM=> ?_;clear hq;subst aM);have:=D9 K hp v hv;exact .inl ⟨v,rfl,xl (⟨(dS (gV (by decide) this.1)),(dS (i9 this.2 (by decide)))⟩)⟩⟩))
theorem aec(K:c.ok)(cC:cells.length≤1000)(hn:n+10≤10000)(S:qZ (aH cells n::av) c ap bl aW)(h1:ρ "tape"=some (.loc 0))(h2:ρ "scene"=some (.loc 1)):
 ∃Q:List (List Int),∃n',fm Pq vA rH ρ (aH cells n::av)=some (.lst (Q.map bf),aH cells n'::av)∧n'≤n+1∧0<Q.length∧Q.length≤30∧∀p∈Q,p∈c.points:=by
 have se:∀m,aG (af "scene") (a5 "answers") ρ (aH cells m::av)=some (.lst (c.answers.map bf),aH cells m::av):=λm=>lj h2 (qn S m).o1 rfl;have sp:∀m,aG (af "scene") (a5 "points") ρ (aH cells m::av)=some (.lst (c.points.map bf),aH cells m::av):=λm=>lj h2 (qn S m).o1 rfl;have t1:=aX (f:=cA) (b:=dc []) (y:= .lst []) (se n) rfl (rz (n:=1) (kg.mpr λp hp=>by obtain⟨x,_,rfl⟩:=dR.mp hp;exact sS x) (by decide) rfl);have Jd:=zy K;by_cases hA:c.answers= []
 ·rw[bT (by rw[hA];simp)]at t1;exact⟨c.points,n,(gC (fY t1)).trans (sp n),bR _ 1,DE K,Jd,λz h=>h⟩
 ·rw[bN (by simpa using hA)]at t1;refine aT (iE (ρ:=ρ) (n:=n) (av:=av) cC (cQ (b:=10) (ao hn (aK rfl))) (w:=4) (by decide) (e:=aw 4) h1 (λz=>rfl)) λu t2 hu=> ?_;have t3:aJ kB kU (aw 0) ρ (aH cells n::av)=some (decide (u>0),aH cells (n+1)::av):=aX t2 rfl rfl;by_cases Tq:u>0
  ·rw[bN Tq]at t3;exact⟨c.answers,n+1,(iJ ((eJ t1).trans ((eJ t3).trans rfl))).trans (se _),cH _,JT.mpr hA,(ao (p8 ..) Jd),λz h=>wJ h⟩
  ·rw[bT Tq]at t3;exact⟨c.points,n+1,(gC ((eJ t1).trans (fY t3))).trans (sp _),cH _,DE K,Jd,λz h=>h⟩
theorem aed(K:c.ok)(cC:cells.length≤1000)(hn:n+20≤10000)(S:qZ (aH cells n::av) c ap bl aW){r':String}(hr':r'=if r="strike" then"strike" else"guess")(F:Fs ρ c.ds.length r ks ps nt)(D:p5 c N r' ks ps nt):
 ∃ai d5 fO n',csC ρ (aH cells n::av)=some (.next,ai,aH cells n'::av)∧Fs ai c.ds.length r d5 ps fO∧p5 c N r d5 ps fO∧n'≤n+10:=by
 by_cases hr:r="better"∨r="seen"
 ·have Je:aJ di (af "rule") tK ρ (aH cells n::av)=some (true,aH cells n::av):=aX (aj F.ru) rfl (qr ["better","seen"] (bN (by simpa using hr)));refine xE (aec K cC (cQ (b:=10) (ao hn (aK rfl))) S F.tp F.sc) λQ n1 e1 kD hQ0 Tr hQ=> ?_;have F1:Fs (ρ.set "some" (.lst (Q.map bf))) c.ds.length r ks ps nt:=⟨F.tp,F.sc,F.st,F.mn,F.ru,F.cl,F.pr,F.no⟩;have k1:(ρ.set "some" (.lst (Q.map bf))) "some"=some (.lst (Q.map bf)):=rfl;have s1:=cf (x:="some") e1;generalize ρ.set "some" (.lst (Q.map bf))=aA at F1 k1 s1;refine aT (Es (ρ:=aA) (n:=n1) (av:=av) cC (cQ (b:=19) (ao (ao (bH kD 19) hn) (aK rfl))) (gg.mpr hQ0) F1.tp ((bp (aV (aj k1))).trans ((qy (by rw[bB];exact ao (bH Tr 1) (aK rfl))).trans (by rw[bB])))) λw t3 hw=> ?_;obtain⟨i,rfl⟩:∃i:Nat,w=i:=⟨w.toNat,by omega⟩;have hi:i<Q.length:=gg.mp hw.2;have oH:=hQ _ (mN hi);have r5:Q[i]? =some Q[i]:=cF hi;generalize Q[i]=p at oH r5;have oL:=ZO K oH;have i0:=o9 oH;have vK:=D9 K oH;have s2:bx "note" Pt aA (aH cells n1::av)=some (.next,aA.set "note" (.tup (p.map .int)),aH cells (n1+1)::av):=
   cf ((bp (aV (gA (i:=i) (v:=bf p) (aj k1) t3 (by rw[eM,r5];rfl) (ao (ao (gg.mp hw.2) Tr) (aK rfl))))).trans (aP (.inr (show(p.map PV.int).length≤100000 by rw[bB];have:=K.len;omega))))
  have F2:Fs (aA.set "note" (.tup (p.map .int))) c.ds.length r ks ps (.tup (p.map .int)):=⟨F1.tp,F1.sc,F1.st,F1.mn,F1.ru,F1.cl,F1.pr,rfl⟩;generalize aA.set "note" (.tup (p.map .int))=bL at s2 F2;have mk:∀{d5:List K3},(∀l∈d5,dQ c.ds.length l)→d5.length≤3→p5 c N r d5 ps (.tup (p.map .int)):=λh1 h2=>⟨h1,h2,D.uh,D.wg,λk=>PY oL k,λz=>oL⟩;refine aT (iE (ρ:=bL) (n:=n1+1) (av:=av) cC (cQ (b:=18) (ao (ao (bH kD 19) hn) (aK rfl))) (w:=4) (by decide) (e:=aw 4) F2.tp (λz=>rfl)) λu t4 hu=> ?_;have t5:aJ kB kU (aw 0) bL (aH cells (n1+1)::av)=some (decide (u>0),aH cells (n1+1+1)::av):=aX t4 rfl rfl;have vW:=K.len;refine bG (td K i0) λq hq=> ?_;have lK:p.map PV.int= .int (p.getD 0 0):: .int (p.getD 1 0)::q.map .int:=by
   conv=>lhs;rw[hq]
   rfl
  have r0:=vK (p.getD 0 0) (by rw[hq];simp);have n0:∀{τ:ah},aG (af "note") (aw 0) bL τ=some (.int (p.getD 0 0),τ):=λ{τ}=>dH (i:=0) (aj (lK▸F2.no)) rfl rfl (by decide);by_cases mF:u>0∧r="better"
  ·rw[bN mF.1]at t5;have tt:fk [(aJ kB kU (aw 0)),xU] bL (aH cells (n1+1)::av)=some (true,aH cells (n1+1+1)::av):=(eJ t5).trans ((eJ (cK F2.ru (bN mF.2))).trans rfl);have sg:aG xX (aw 0) bL (aH cells (n1+1+1)::av)=some (.str c.kind,aH cells (n1+1+1)::av):=dH (l:= [.str c.kind,c.gx]) (i:=0) (lj (v:=c.goal) F2.sc (qn S _).o1 rfl) rfl rfl (by decide);have ec:∃l:K3,dQ c.ds.length l∧fm (aJ bA (aG xX (aw 0)) (a5 "minimize")) (bg [(bg [(aw 0),(a5 "<="),HF])]) (bg [(bg [(aw 0),(a5 ">="),FN])]) bL (aH cells (n1+1+1)::av)=some (bh [l],aH cells (n1+1+1)::av):=by
    by_cases RK:c.kind="minimize"
    ·exact⟨(0,"<=",p.getD 0 0-1),⟨⟨Dv _,by show(0:Int)<c.ds.length;omega⟩,.inl rfl,by lia,by lia⟩,(iJ (aX sg rfl (oi (bN RK)))).trans (d3 (aV (d3 (bC rfl (bC rfl (aV ((da n0 rfl).trans rfl)))))))⟩
    ·exact⟨(0,">=",p.getD 0 0+1),⟨⟨Dv _,by show(0:Int)<c.ds.length;lia⟩,.inr (.inl rfl),by lia,by lia⟩,(gC (aX sg rfl (oi (bT RK)))).trans (d3 (aV (d3 (bC rfl (bC rfl (aV ((da n0 rfl).trans rfl)))))))⟩
   (refine aT ec λl hl e5=> ?_;clear ec);exact⟨bL.set "clause" (bh [l]),[l],_,n1+1+1,(cT Je).trans ((aR s1).trans ((aR s2).trans ((aR ((cT tt).trans ((aR (cf e5)).trans rfl))).trans rfl))),⟨F2.tp,F2.sc,F2.st,F2.mn,F2.ru,rfl,F2.pr,F2.no⟩,mk (λx hx=>by rw[fz]at hx;exact hx▸hl) (aK rfl),ao (bH kD 2) (bR _ 7)⟩
  ·have tt:fk [(aJ kB kU (aw 0)),xU] bL (aH cells (n1+1)::av)=some (false,aH cells (n1+1+1)::av):=by
    by_cases h1:u>0
    ·rw[bN h1]at t5;exact(eJ t5).trans (fY (cK F2.ru (bT λh=>mF ⟨h1,h⟩)))
    ·rw[bT h1]at t5;exact fY t5
   by_cases Ts:r="seen"
   ·refine aT (iE (ρ:=bL) (n:=n1+1+1) (av:=av) cC (cQ (b:=17) (ao (ao (bH kD 19) hn) (aK rfl))) (w:=3) (by decide) (e:=aw 3) F2.tp (λz=>rfl)) λy t6 hy=> ?_;have t7:aJ kB tO (aw 0) bL (aH cells (n1+1+1)::av)=some (decide (y>0),aH cells (n1+1+1+1)::av):=aX t6 rfl rfl;have er:∃k:Nat,k≤c.ds.length∧aN gz [(fm (aJ kB tO (aw 0)) (af "many") (aw 1))] bL (aH cells (n1+1+1)::av)=some (.d7 0 k,aH cells (n1+1+1+1)::av):=by
     by_cases Tt:y>0
     ·rw[bN Tt]at t7;exact⟨c.ds.length,cH _,(bp (aV ((iJ t7).trans (aj F2.mn)))).trans rfl⟩
     ·rw[bT Tt]at t7;exact⟨1,by omega,(bp (aV ((gC t7).trans rfl))).trans rfl⟩
    refine aT er λk hk er=> ?_;have B8:(fC 0 k).length=k:=by unfold fC;simp
    have hrm:∀v∈fC 0 k,∃j:Nat,v= .int j∧j<k:=λv hv=>by
     (refine aT (dR.mp hv) λj hj aM=> ?_;clear hv;subst aM);exact⟨j,by rw[zf],by have:=gW.mp hj;lia⟩
    obtain⟨vs,n',e5,e6,e7,e8⟩:=Eo (ρ:=bL) (cells:=cells) (av:=av) (P:=λv=>∃l:K3,v=l.pv∧dQ c.ds.length l) (B:=n1+10) 0 (x:="x") (e:=Pu) (fC 0 k) (dq er (mX (by decide) (by lia))) (by lia) (by lia) (λv h=>by obtain⟨l,rfl,_⟩:=h;rfl) (λy hy n' l ai qR kP hx=>by
     (refine aT (hrm y hy) λj aM hj=> ?_;clear hy;subst aM);have Tu:j<p.length:=ao (ao hj hk) (bM i0.symm);have hgj:(p.map PV.int)[j]? =some (.int p[j]):=by rw[eM,cF Tu];rfl
     have hv:=vK _ (mN Tu);exact⟨K3.pv (j,"!=",p[j]),n',d3 (bC (aj hx) (bC rfl (aV (dH (i:=j) (aj ((kP _ (by decide) (by decide)).trans F2.no)) (aj hx) hgj (by lia))))),⟨_,rfl,⟨by show(0:Int)≤j;exact jJ.mpr (eH _),by show(j:Int)<c.ds.length;exact gg.mpr (ao hj hk)⟩,.inr (.inr (.inr rfl)),dS (gV (by decide) hv.1),dS (i9 hv.2 (by decide))⟩,cH _⟩)
    (refine aT (NU e7) λd5 aM afv=> ?_;clear e7;subst aM);have Jf:d5.length≤3:=by rw[bB]at e6;lia
    exact⟨bL.set "clause" (bh d5),d5,_,n',(cT Je).trans ((aR s1).trans ((aR s2).trans ((aR ((bZ tt).trans ((aR ((cT (cK F2.ru (bN Ts))).trans ((aR (cf ((bp (aV e5)).trans (aP (by rw[bB];omega))))).trans rfl))).trans rfl))).trans rfl))),⟨F2.tp,F2.sc,F2.st,F2.mn,F2.ru,rfl,F2.pr,F2.no⟩,mk afv Jf,by lia⟩
   ·exact⟨bL,ks,_,n1+1+1,(cT Je).trans ((aR s1).trans ((aR s2).trans ((aR ((bZ tt).trans ((aR ((bZ (cK F2.ru (bT Ts))).trans rfl)).trans rfl))).trans rfl))),F2,mk D.lit D.len,ao (bH kD 2) (bR _ 7)⟩
 ·refine⟨ρ,ks,nt,n,(bZ (aX (aj F.ru) rfl (qr ["better","seen"] (bT (by simpa using hr))):aJ di (af "rule") tK ρ (aH cells n::av)=some (false,aH cells n::av))).trans rfl,F,⟨D.lit,D.len,D.uh,D.wg,D.yv,λh=>D.nt ?_⟩,bR _ 10⟩;rcases h with h|h
  ·rw[hr',aP h];exact .inl rfl
  ·exact bP h hr
end
section
variable{ρ ai:aO}{σ aq τ av:ah}{cells:List Int}{n many N:Nat}{r:String}{ks:List K3}{ps:List PV}{nt:PV}{c:b8}{ap:Option (List Int)}{bl:List (List K3)}{aW:List Sp}
theorem ac4(D:p5 c N r ks ps nt)(k:Nat):PV.lt k (.tup [.str r,bh ks,.tup ps,nt])=true:=by
 show eE k _=true;rw[jO];intro p hp;simp only[cG,ff,fg]at hp;rcases hp with rfl|rfl|rfl|rfl
 ·rfl
 ·exact xn k ks
 ·show eE k ps=true;exact jO.mpr λp hp=>by obtain⟨i,rfl⟩:=D.uh p hp;rfl
 ·exact D.yv k
theorem ac5(K:c.ok)(cC:cells.length≤1000)(hn:n+60≤10000)(S:qZ (aH cells n::av) c ap bl aW)(hg:∀s∈aW,vq c s∧s.ks.length≤3)(yw:0<aW.length∧aW.length≤100):
 ∃r ks ps nt n',DC [.loc 0,.loc 1,.loc 3] (aH cells n::av)=some (.tup [.str r,bh ks,.tup ps,nt],aH cells n'::av)∧p5 c N r ks ps nt∧n'≤n+40:=by
 generalize gQ:(bX ["tape","scene","steps"] [.loc 0,.loc 1,.loc 3] λz=>none)=a9;have g0:a9 "tape"=some (.loc 0):=gQ▸rfl;have g1:a9 "scene"=some (.loc 1):=gQ▸rfl;have hl:=K.len;refine aT (iE (ρ:=a9) (n:=n) (av:=av) cC (cQ (b:=60) (ao hn (aK rfl))) (w:=5) (by decide) (e:=aw 5) g0 (λz=>rfl)) λv t1 hv=> ?_;have er:∃r:String,aG Px xV a9 (aH cells n::av)=some (.str r,aH cells (n+1)::av):=by
  have:v=0∨v=1∨v=2∨v=3∨v=4:=by lia
  clear hv;rcases this with rfl|rfl|rfl|rfl|rfl
  ·exact⟨_,dO (x:= .tup [.str "strike",.str "nogood",.str "better",.str "seen",.str "guess"]) rfl t1 rfl⟩
  ·exact⟨_,dO (x:= .tup [.str "strike",.str "nogood",.str "better",.str "seen",.str "guess"]) rfl t1 rfl⟩
  ·exact⟨_,dO (x:= .tup [.str "strike",.str "nogood",.str "better",.str "seen",.str "guess"]) rfl t1 rfl⟩
  ·exact⟨_,dO (x:= .tup [.str "strike",.str "nogood",.str "better",.str "seen",.str "guess"]) rfl t1 rfl⟩
  ·exact⟨_,dO (x:= .tup [.str "strike",.str "nogood",.str "better",.str "seen",.str "guess"]) rfl t1 rfl⟩
 refine bG er λr er=> ?_;have s1:iH ["many","rule"] Rc a9 (aH cells n::av)=some (.next,(a9.set "rule" (.str r)).set "many" (.int c.ds.length),aH cells (n+1)::av):=(bb (d3 (bC ((bp (aV (lj (x:="lots") g1 S.o1 rfl))).trans ((qy (by unfold b8.b9;simp only[bB];omega)).trans (by unfold b8.b9;simp only[bB])):aN cq [AR] a9 (aH cells n::av)=some (.int c.ds.length,aH cells n::av)) (aV er)))).trans rfl;generalize fv:(a9.set "rule" (.str r)).set "many" (.int c.ds.length)=aA at s1;have k0:aA "tape"=some (.loc 0):=fv▸g0;have k3:aA "many"=some (.int c.ds.length):=by rw[←fv];rfl
 refine jV (D8 (cells:=cells) (av:=av) (n:=n+1) (many:=c.ds.length) (by omega) cC (cQ (b:=39) (ao hn (aK rfl)))) λks n1 e2 kD hz hk=> ?_;have s2:cW (bg [Bs,(bg []),cU]) Pz aA (aH cells (n+1)::av)=some (.next,((aA.set "clause" (bh ks)).set "premises" (.tup [])).set "note" .none,aH cells n1::av):=
  jA (d3 (bC ((bp (bC (aj k0) (aV (aj k3)))).trans e2) (bC rfl (aV rfl)))) rfl
 generalize et:((aA.set "clause" (bh ks)).set "premises" (.tup [])).set "note" .none=bL at s2;have F:Fs bL c.ds.length r ks [] .none:=by rw[←et];exact⟨k0,(fv▸g1:aA "scene"=some (.loc 1)),(fv▸(gQ▸rfl:a9 "steps"=some (.loc 3)):aA "steps"=some (.loc 3)),k3,(fv▸rfl:aA "rule"=some (.str r)),rfl,rfl,rfl⟩
 refine G7 (aea (N:=N) K cC (cQ (b:=39) (ao (ao (bH kD 49) hn) (aK rfl))) (qn S n1) F (⟨λl hl=>(hk l hl).lit,ao hz (aK rfl),(λp hp=>by cases hp),eH _,λz=>rfl,λh=>by rcases h with h|h|h<;>exact bP h (by decide)⟩)) λdw ks3 nt3 n3 e3 F3 D3 Jg=> ?_;refine G7 (aeb (N:=N) cC (cQ (b:=36) (ao (ao (ao (bH Jg 46) (bH kD 49)) hn) (aK rfl))) (qn S n3) hg yw F3 D3) λjf ks4 Tv n4 e4 F4 D4 ui=> ?_;refine G7 (aed (N:=N) K cC (cQ (b:=20) (ao (ao (ao (ao (bH ui 40) (bH Jg 46)) (bH kD 49)) hn) (aK rfl))) (qn S n4) rfl F4 D4) λkr Tw Tz n5 e5 F5 D5 hn5=> ?_;refine⟨r,Tw,Tv,Tz,n5,?_,D5,ao (ao (ao (ao hn5 (bH ui 10)) (bH Jg 16)) (bH kD 19)) (bR _ 10)⟩;have R:Rt LD a9 (aH cells n::av) (.tup [.str r,bh Tw,.tup Tv,Tz]) (aH cells n5::av):=cg s1 (cg s2 (cg e3 (cg e4 (cg e5 (bW (d3 (bC (aj F5.ru) (bC (aj F5.cl) (bC (aj F5.pr) (aV (aj F5.no)))))))))));(refine bG R λai e=> ?_;clear R);have:=uV (cells:=cells) (n:=n) (av:=av) n5 [];rw[gy]at this;exact mY rfl (gQ▸e) rfl this (ac4 D5 _) (qc (l:=aH cells n5::av))
end
def Rs(c:b8)(ap:Option (List Int))(bl:List (List K3))(aW:List Sp):ah:= [.cZ (fX c ap),.list (bl.map bh),.list (aW.map Sp.pv),.inst 539 (jY c 5 (kW ap) 9),.inst 463 (lU c.ds),.inst 347 [("steps",.loc 7),("places",.loc 8)],.list [],.aU [],.list (bl.map bh)]
structure FL(ρ:aO)(many:Nat):Prop where
 tp:ρ "tape"=some (.loc 0)
 sc:ρ "scene"=some (.loc 1)
 st:ρ "steps"=some (.loc 3)
 ck:ρ "checker"=some (.loc 4)
 mn:ρ "many"=some (.int many)
theorem FL.set(F:FL ρ m){x:String}{v:PV}(h:x≠"tape"∧x≠"scene"∧x≠"steps"∧x≠"checker"∧x≠"many"):FL (ρ.set x v) m:=by
 (refine vr h λh1 h2 h3 h4 h5=> ?_;clear h);exact⟨by unfold aO.set;rw[aS h1.symm];exact F.tp,by unfold aO.set;rw[aS h2.symm];exact F.sc,by unfold aO.set;rw[aS h3.symm];exact F.st,by unfold aO.set;rw[aS h4.symm];exact F.ck,by unfold aO.set;rw[aS h5.symm];exact F.mn⟩
structure Inv(c:b8)(bl:List (List K3))(aW:List Sp)(j n:Nat):Prop where
 good:∀s∈aW,vq c s∧s.ks.length≤3
 s0:0<aW.length
 sl:aW.length≤2+j
 se:bl.length≤j
 n:n≤200+100*j
section
abbrev GY:CS:=Rg
abbrev Aq:CS:=(ak (bx "step" HI)
 (ak PC
 (ak Rk
 (ak GY aC))))
end
section
variable{ρ ai:aO}{σ aq τ av:ah}{cells:List Int}{n many N j:Nat}{r:String}{ks:List K3}{ps:List PV}{nt C Pm:PV}{c:b8}{ap:Option (List Int)}{bl:List (List K3)}{aW:List Sp}
theorem ES(n:Nat):qZ (aH cells n::Rs c ap bl aW) c ap bl aW:=⟨rfl,rfl,rfl⟩
theorem aee(h:wd c ap bl aW r C Pm nt=""):fN c.ds.length C=true:=by
 cases hk:fN c.ds.length C with
 |true=>rfl
 |false=>
  unfold wd at h;rw[aP hk]at h;exact bP h (by decide)
theorem aef(Jf:ks.length≤3)(hj:j≤10)(I:Inv c bl aW j n)(F:FL ρ c.ds.length)(f9:ρ "step"=some (.tup [.str r,bh ks,Pm,nt]))(RL:ρ "due"=some (.str "")):
 GY ρ (aH cells n::(if r="seen" then(nf (aH cells n::Rs c ap bl aW) c 4 5 9 bl ks).tail else Rs c ap bl aW))=
  some (.next,ρ,aH cells n::Rs c (if r="seen" then some (ks.map (·.1))else ap) (if r="seen" then bl++ [ks]else bl) (aW++ [⟨.str r,ks,Pm,nt⟩])):=by
 have kS:(aW.map Sp.pv).length≤1000000:=by rw[bB];have:=I.sl;lia
 have I7:(bl.map bh).length≤1000000:=by rw[bB];have:=I.se;exact ao (ao this hj) (aK rfl)
 have e1:(aW.map Sp.pv)++ [.tup [.str r,bh ks,Pm,nt]]=(aW++ [Sp.mk (.str r) ks Pm nt]).map Sp.pv:=by rw[mO];rfl
 by_cases hr:r="seen"
 ·rw[aP hr,aP hr,aP hr];have s1:=uU (ρ:=ρ) (σ:= [aH cells n,.cZ (fX c ap),.list (bl.map bh),.list (aW.map Sp.pv),.inst 539 (jY c 5 (kW (some (ks.map (·.1)))) 9),.inst 463 (lU c.ds),.inst 347 [("steps",.loc 7),("places",.loc 8)],.list [],.aU [],.list ((bl++ [ks]).map bh)]) (o:=af "steps") (e:=af "step") (aj F.st) (aj f9) rfl kS;rw[e1]at s1;generalize hM:(aW++ [Sp.mk (.str r) ks Pm nt]).map Sp.pv=M at s1;have yf:∀{τ:ah},aG (af "step") (aw 1) ρ τ=some (bh ks,τ):=dH (l:= [.str r,bh ks,Pm,nt]) (i:=1) (aj f9) rfl rfl (by decide);have c1:∀{τ:ah},runC false [".0","one"] (bE (aG (af "step") (aw 1))) (a8 "one") (λz σ=>some (true,σ)) (λk=>bK (aG (af "one") (aw 0)) k) bQ ρ τ=some (I0 (some (ks.map (·.1))),τ):=λ{τ}=>by
   refine(n6 ks K3.pv (λl=> .int l.1) (dq yf rfl) ?_ (λx hx l=> ?_) λz z=>rfl).trans ?_
   ·exact ao Jf (by decide)
   ·exact dH (i:=0) (aj (v:=x.pv) rfl) rfl rfl (by decide)
   ·show some (PV.lst _,τ)=some (PV.lst ((ks.map (·.1)).map .int),τ);rw[kH];rfl
  have s2:cW Rf (gm (af "scene") (a5 "apart")) ρ [aH cells n,.cZ (fX c ap),.list (bl.map bh),.list M,.inst 539 (jY c 5 (kW (some (ks.map (·.1)))) 9),.inst 463 (lU c.ds),.inst 347 [("steps",.loc 7),("places",.loc 8)],.list [],.aU [],.list ((bl++ [ks]).map bh)]=
   some (.next,ρ,[aH cells n,.cZ (fX c (some (ks.map (·.1)))),.list (bl.map bh),.list M,.inst 539 (jY c 5 (kW (some (ks.map (·.1)))) 9),.inst 463 (lU c.ds),.inst 347 [("steps",.loc 7),("places",.loc 8)],.list [],.aU [],.list ((bl++ [ks]).map bh)]):=by
   exact(jA c1 (Oj (x:="apart") (l:=fX c ap) (aj F.sc) rfl rfl (aK rfl))).trans rfl
  have s3:=uU (ρ:=ρ) (σ:= [aH cells n,.cZ (fX c (some (ks.map (·.1)))),.list (bl.map bh),.list M,.inst 539 (jY c 5 (kW (some (ks.map (·.1)))) 9),.inst 463 (lU c.ds),.inst 347 [("steps",.loc 7),("places",.loc 8)],.list [],.aU [],.list ((bl++ [ks]).map bh)]) (o:=aG (af "scene") (a5 "seen")) (e:=aG (af "step") (aw 1)) (lj (v:= .loc 2) (ap:=some (ks.map (·.1))) F.sc rfl rfl) yf rfl I7;rw[(mO▸rfl:bl.map bh++ [bh ks]=(bl++ [ks]).map bh)]at s3;refine(cT (cK RL (by decide))).trans ((aR s1).trans ((aR ((cT (aX (dH (l:= [.str r,bh ks,Pm,nt]) (i:=0) (aj f9) rfl rfl (by decide)) rfl (oi (bN hr)))).trans ((aR s2).trans ((aR s3).trans rfl)))).trans ?_));rw[←hM];rfl
 ·rw[aS hr,aS hr,aS hr];have s1:=uU (ρ:=ρ) (σ:=aH cells n::Rs c ap bl aW) (o:=af "steps") (e:=af "step") (aj F.st) (aj f9) rfl kS;rw[e1]at s1;refine(cT (cK RL (by decide))).trans ((aR s1).trans ((aR ((bZ (aX (dH (l:= [.str r,bh ks,Pm,nt]) (i:=0) (aj f9) rfl rfl (by decide)) rfl (oi (bT hr)))).trans rfl)).trans rfl))
end
section
variable{ρ ai:aO}{σ aq τ av:ah}{cells:List Int}{n many N j:Nat}{r:String}{ks:List K3}{ps:List PV}{nt C Pm:PV}{c:b8}{ap:Option (List Int)}{bl:List (List K3)}{aW:List Sp}
theorem ZP{out:PV}(h:σ[3]? =some (.list (aW.map Sp.pv)))(hz:aW.length≤100):dj σ (.loc 3) (.lst [out])=some (.lst (aW.map Sp.pv++ [out]),σ):=by
 have h2:qu σ (.loc 3)=some (aW.map Sp.pv):=by unfold qu;rw[(sV h)]
 show((qu σ (.loc 3)).bind λl=>(qu σ (.lst [out])).bind λr=>if l.length+r.length≤10000 then some (PV.lst (l++r),σ)else none)=_;rw[h2];show(if(aW.map Sp.pv).length+ [out].length≤10000 then _ else none)=_;rw[aP (by simp only[bB,jb,nR];lia)]
theorem ZQ(K:c.ok)(cC:cells.length≤1000)(hj:j≤5)(I:Inv c bl aW j n)(F:FL ρ c.ds.length):
 ∃ai n' uj pH pn,Aq ρ (aH cells n::Rs c ap bl aW)=some (.next,ai,aH cells n'::Rs c uj pH pn)∧FL ai c.ds.length∧Inv c pH pn (j+1) n':=by
 have kS:aW.length≤100:=by have:=I.sl;lia
 have hn:=I.n;have bJ:=K.len;refine Bb (ac5 (N:=aW.length) K cC (n:=n) (by omega) (ES (c:=c) (ap:=ap) (bl:=bl) (aW:=aW) n) I.good ⟨I.s0,kS⟩) λr ks ps nt n1 e1 D kD=> ?_;refine tx (ac3 (n:=n1) (av:=Rs c ap bl aW) (N:=aW.length) (many:=c.ds.length) (r:=r) cC (by lia) (by omega) D.lit D.len D.uh D.wg D.yv) λout n2 e2 qN Bh=> ?_;have PZ:∀{ρ:aO} (m:Nat),ρ "steps"=some (.loc 3)→aN cq [af "steps"] ρ (aH cells m::Rs c ap bl aW)=some (.int aW.length,aH cells m::Rs c ap bl aW):=λm h=>(bp (aV (aj h))).trans ((Ap (ES m).o3 (by rw[bB];exact ao (bH kS 1) (aK rfl))).trans (by rw[bB]));have s1:bx "step" HI ρ (aH cells n::Rs c ap bl aW)=some (.next,ρ.set "step" out,aH cells n2::Rs c ap bl aW):=
  cf ((bp (bC (aj F.tp) (bC ((bp (bC (aj F.tp) (bC (aj F.sc) (aV (aj F.st))))).trans e1) (bC (aj F.mn) (aV (PZ n1 F.st)))))).trans e2)
 have F1:FL (ρ.set "step" out) c.ds.length:=F.set (by decide);have k1:(ρ.set "step" out) "step"=some out:=rfl;generalize ρ.set "step" out=aA at s1 F1 k1;have S:=ES (cells:=cells) (c:=c) (ap:=ap) (bl:=bl) (aW:=aW) n2;have go:∀(w:String) (aq:ah),wN [.loc 1,.loc 3,out] (aH cells n2::Rs c ap bl aW)=some (.str w,aH cells n2::Rs c ap bl aW)→q6 [.loc 4,.lst (aW.map Sp.pv++ [out]),.int aW.length] (aH cells n2::Rs c ap bl aW)=some (.str w,aq)→
  (∃n' uj pH pn,GY (aA.set "due" (.str w)) aq=some (.next,aA.set "due" (.str w),aH cells n'::Rs c uj pH pn)∧Inv c pH pn (j+1) n')→
  ∃ai n' uj pH pn,Aq ρ (aH cells n::Rs c ap bl aW)=some (.next,ai,aH cells n'::Rs c uj pH pn)∧FL ai c.ds.length∧Inv c pH pn (j+1) n':=λw aq h1 h2 ⟨n',uj,pH,pn,h3,h4⟩=>by
  have F2:FL (aA.set "due" (.str w)) c.ds.length:=F1.set (by decide);have k2:(aA.set "due" (.str w)) "step"=some out:=k1;have ef:fi (af "checker") 539 "fault_of" q6 [(bU dj (af "steps") (dc [(af "step")])),(aN cq [(af "steps")])] (aA.set "due" (.str w)) (aH cells n2::Rs c ap bl aW)=some (.str w,aq):=
   (jx (aj F2.ck) rfl rfl (bC ((da (aj F2.st) (xw (aV (aj k2)))).trans (ZP S.o3 kS)) (aV (PZ n2 F2.st)))).trans h2
  exact⟨_,n',uj,pH,pn,(aR s1).trans ((aR (cf (x:="due") ((bp (bC (aj F1.sc) (bC (aj F1.st) (aV (aj k1))))).trans h1))).trans ((aR ((bZ (aX ef (aj rfl) (ne_str (bT λh=>h rfl)))).trans rfl)).trans ((aR h3).trans rfl))),F2,h4⟩
 have inv1:Inv c bl aW (j+1) n2:=⟨I.good,I.s0,by have:=I.sl;exact ao this (bR _ 1),by have:=I.se;exact ao this (bR _ 1),by lia⟩;rcases Bh with hb|⟨C,Pm,fO,rfl,hC,TA,hP,By⟩
 ·refine go "step" _ (Vq hb) (XH kS hb) ⟨n2,ap,bl,aW,?_,inv1⟩;exact(bZ (cK (x:="step") rfl (by decide))).trans rfl
 ·have oL:r="strike"∨r="better"∨r="seen"→Nt fO:=λh=>by
   rcases By with rfl|h2
   ·exact D.nt h
   ·exact h2
  have hw:=WC K S (λs hs=>(I.good s hs).1) kS hC hP oL;have hf:=abl (k:=4) (j:=5) (a:=9) (σ:=aH cells n2::Rs c ap bl aW) (ap:=ap) (bl:=bl) K (by decide) rfl rfl rfl (by have:=I.se;exact ao (ao this hj) (aK rfl)) (λs hs=>(I.good s hs).1) kS hC hP oL;generalize TB:wd c ap bl aW r C Pm fO=w at hw hf;refine go w _ hw hf ?_;by_cases yx:w=""
  ·have iz:=aee (TB.trans yx);have B9:=TA iz;(refine l5 (AA hC iz) λd5 aM jj z z=> ?_;clear e2 go hC TA TB hw hf iz;subst aM);rw[vb]at B9⊢;have f9:(if w=""∧r="seen" then nf (aH cells n2::Rs c ap bl aW) c 4 5 9 bl d5 else aH cells n2::Rs c ap bl aW)=aH cells n2::(if r="seen" then(nf (aH cells n2::Rs c ap bl aW) c 4 5 9 bl d5).tail else Rs c ap bl aW):=by
    by_cases hr:r="seen"
    ·rw[aP ⟨yx,hr⟩,aP hr];rfl
    ·rw[aS (λh=>hr h.2),aS hr]
   rw[f9];refine⟨n2,_,_,_,(aef (cells:=cells) (n:=n2) (ρ:=aA.set "due" (.str w)) (c:=c) (ap:=ap) (bl:=bl) (aW:=aW) (ks:=d5) (r:=r) (Pm:=Pm) (nt:=fO) B9 (j:=j+1) (ao (bH hj 1) (aK rfl)) inv1 (F1.set (by decide)) k1 (yx▸rfl)),⟨λs hs=> ?_,by simp,by simp;have:=I.sl;exact bH this 1,?_,by omega⟩⟩
   ·rcases uy.mp hs with h|h
    ·exact I.good s h
    ·rw[fz]at h;clear hs;subst h;exact⟨⟨jj,ao B9 (aK rfl)⟩,B9⟩
   ·have:=I.se;split
    ·simp;exact this
    ·exact ao this (bR _ 1)
  ·rw[aS (λh=>yx h.1)];exact⟨n2,ap,bl,aW,(bZ (cK (x:=w) rfl (bT yx))).trans rfl,inv1⟩
end
section
variable{ρ ai:aO}{cells:List Int}{n j:Nat}{c:b8}{ap:Option (List Int)}{bl:List (List K3)}{aW:List Sp}
theorem XI(K:c.ok)(cC:cells.length≤1000):∀(xs:List PV) (j n:Nat) (ρ:aO) (ap:Option (List Int)) (bl:List (List K3)) (aW:List Sp),j+xs.length≤6→Inv c bl aW j n→FL ρ c.ds.length→
 ∃ai aq,eU false 0 (a8 "lap") Aq xs ρ (aH cells n::Rs c ap bl aW)=some (.next,ai,aq):=by
 intro x0
 induction x0 with
 |nil=>exact λz n ρ ap bl aW z z z=>⟨ρ,_,rfl⟩
 |cons x xs ih=>
  intro j n ρ ap bl aW hj I F;refine Bb (ZQ (cells:=cells) (ap:=ap) K cC (cQ (b:=1) (ao (bH (bR _ _) 1) hj)) I (F.set (x:="lap") (v:=x) (by decide))) λaA n1 ap1 aeg ac6 h1 F1 I1=> ?_;refine gM (ih (j+1) n1 aA ap1 aeg ac6 (ao (bM (fS _ 1 _)) hj) I1 F1) λai aq h2=> ?_;exact⟨ai,aq,(ie (aA:=ρ.set "lap" x) rfl h1).trans h2⟩
end
theorem XJ(a b:Int):(qg a b 1).length≤(b-a).toNat:=by
 unfold qg;rw[bB,q9];by_cases h:a<b
 ·rw[aP h];show((b-a+1-1)/1).toNat≤_;rw[yJ,Int.ediv_one];exact cH _
 ·rw[aS h];exact eH _
section
variable{ρ ai:aO}{σ aq τ av:ah}{cells:List Int}{n j:Nat}{c:b8}
theorem abn{xs:List Int}(h:ρ "script"=some (.lst (xs.map .int)))(hz:xs.length≤63):∃cs:List Int,cs.length≤1000∧
 runC false [".0","cell"] (bE (jw (af "script") cU (aw 60) cU)) (a8 "cell") (λz σ=>some (true,σ)) (λk=>bK (aN Be [(af "cell")]) k) bQ ρ σ=some (.lst (cs.map .int),σ):=by
 have hs:jw (af "script") cU (aw 60) cU ρ σ=some (.lst (rD (xs.map PV.int) none (some 60) none),σ):=by
  refine(bb (aj h)).trans ?_;show(if(xs.map PV.int).length≤100000 then some (PV.lst (rD (xs.map PV.int) none (some 60) none),σ)else none)=_;rw[aP (by rw[bB];exact ao hz (aK rfl))]
 have hp:rD (xs.map PV.int) none (some 60) none=((qg 0 (max 0 (min 60 (xs.length:Int))) 1).filterMap (xs[·]?)).map PV.int:=by
  unfold rD ni;rw[bB];show(qg (mT none (some 60) none xs.length).1 (mT none (some 60) none xs.length).2.1 (mT none (some 60) none xs.length).2.2).filterMap _=_;rw[List.map_filterMap];congr 1;funext i;rw[eM]
 have hl:((qg 0 (max 0 (min 60 (xs.length:Int))) 1).filterMap (xs[·]?)).length≤60:=by
  refine ao (Uc _ _) (ao (XJ _ _) ?_);rw[Int.sub_zero];exact Int.toNat_le.mpr (Int.max_le.mpr ⟨by decide,Int.min_le_left _ _⟩)
 rw[hp]at hs;generalize(qg 0 (max 0 (min 60 (xs.length:Int))) 1).filterMap (xs[·]?)=cs at hs hl;exact⟨cs,ao hl (aK rfl),n6 cs PV.int PV.int (dq hs rfl) (ao hl (aK rfl)) (λy z l=>(bp (aV (aj rfl))).trans rfl) λz z=>rfl⟩
end
section
variable{ρ ai:aO}{σ aq τ av:ah}
theorem NV{γ:Type}{jh:γ→PV}{f:γ→PV}{G:aO→Prop}{bF:CT}{e:CE}:∀(ys:List γ) (ρ:aO) (acc:List PV),G ρ→acc.length+ys.length≤1000→
 (∀y∈ys,∀ρ,G ρ→∃hZ,(∀τ,bF (jh y) ρ τ=some (hZ,τ))∧G hZ∧∀l,e hZ (σ++ [.list l])=some (f y,σ++ [.list l]))→
 ∃ai,hG false 0 bF (λz σ=>some (true,σ)) (bK e σ.length) (ys.map jh) ρ (σ++ [.list acc])=some (ai,σ++ [.list (acc++ys.map f)])∧G ai
 | [],ρ,acc,g,_,_=>⟨ρ,by rw[Dj,gy];rfl,g⟩
 |y::ys,ρ,acc,g,hz,h=>by
  refine cY (h y (.head _) ρ g) λhZ h1 h2 h3=> ?_;obtain⟨ai,h4,h5⟩:=NV (jh:=jh) (f:=f) (G:=G) (bF:=bF) (e:=e) ys hZ (acc++ [f y]) h2 (by simp;exact ao (bM (fS _ 1 _)) hz) λy hy=>h y (.tail _ ‹_›);refine⟨ai,?_,h5⟩;refine(bb (h1 _)).trans ((bb rfl).trans ?_);refine(bb (Zo (h3 acc) (cQ (b:=1) (ao (ao (bH (bR _ _) 1) hz) (aK rfl))))).trans ?_;show hG false 0 bF _ _ (ys.map jh) hZ (σ++ [.list (acc++ [f y])])=_;rw[h4,jo];rfl
theorem M4{β γ:Type}{enc:β→PV}{ys:β→List γ}{jh:γ→PV}{f:β→γ→PV}{G:aO→Prop}{G1:β→aO→Prop}{bF nF:CT}{lJ:CI}{e:CE}:∀(xs:List β) (ρ:aO) (acc:List PV),G ρ→acc.length+(xs.flatMap λx=>(ys x).map (f x)).length≤1000→
 (∀x∈xs,∀ρ,G ρ→∃j7,(∀τ,bF (enc x) ρ τ=some (j7,τ))∧G1 x j7)→(∀x∈xs,∀ρ,G1 x ρ→G ρ∧∀l,lJ ρ (σ++ [.list l])=some ((ys x).map jh,σ++ [.list l]))→
 (∀x∈xs,∀y∈ys x,∀ρ,G1 x ρ→∃hZ,(∀τ,nF (jh y) ρ τ=some (hZ,τ))∧G1 x hZ∧∀l,e hZ (σ++ [.list l])=some (f x y,σ++ [.list l]))→
 ∃ai,hG false 0 bF (λz σ=>some (true,σ)) (ph lJ nF (λz σ=>some (true,σ)) (bK e σ.length)) (xs.map enc) ρ (σ++ [.list acc])=some (ai,σ++ [.list (acc++xs.flatMap λx=>(ys x).map (f x))])
 | [],ρ,acc,g,_,_,_,_=>⟨ρ,by rw[List.flatMap_nil,gy];rfl⟩
 |x::xs,ρ,acc,g,hz,h1,h2,h3=>by
  rw[CM,oO,bB]at hz;refine aT (h1 x (.head _) ρ g) λj7 a1 a2=> ?_;refine cM (h2 x (.head _) j7 a2) λz b2=> ?_;refine aT (NV (σ:=σ) (jh:=jh) (f:=f x) (G:=G1 x) (bF:=nF) (e:=e) (ys x) j7 acc a2 (by lia) (h3 x (.head _))) λhZ c1 c2=> ?_;obtain⟨ai,d1⟩:=M4 (enc:=enc) (ys:=ys) (jh:=jh) (f:=f) (G:=G) (G1:=G1) (bF:=bF) (nF:=nF) (lJ:=lJ) (e:=e) xs hZ (acc++(ys x).map (f x)) (h2 x (.head _) hZ c2).1 (by rw[oO,bB];exact ao (bM (De _ _ _)) hz) (λx hx=>h1 x (.tail _ ‹_›)) (λx hx=>h2 x (.tail _ ‹_›)) (λx hx=>h3 x (.tail _ ‹_›));refine⟨ai,?_⟩;refine(bb (a1 _)).trans ((bb rfl).trans ?_);have ei:ph lJ nF (λz σ=>some (true,σ)) (bK e σ.length) j7 (σ++ [.list acc])=some (hZ,σ++ [.list (acc++(ys x).map (f x))]):=(bb (b2 acc)).trans c1;refine(bb ei).trans ?_;show hG false 0 bF _ _ (xs.map enc) hZ (σ++ [.list (acc++(ys x).map (f x))])=_;rw[d1,CM,jo]
end
section
variable{ρ ai:aO}{σ aq τ av:ah}
theorem OL{enc:β→PV}{ys:β→List γ}{jh:γ→PV}{f:β→γ→PV}(G:aO→Prop)(G1:β→aO→Prop){nF:CT}{lJ:CI}{e:CE}(xs:List β)(hit:it ρ σ=some (xs.map enc,σ))(g:G (ρ.drop tg))(hz:(xs.flatMap λx=>(ys x).map (f x)).length≤1000)
 (h1:∀x∈xs,∀ρ,G ρ→∃j7,(∀τ,bF (enc x) ρ τ=some (j7,τ))∧G1 x j7) (h2:∀x∈xs,∀ρ,G1 x ρ→G ρ∧∀l,lJ ρ (σ++ [.list l])=some ((ys x).map jh,σ++ [.list l]))
 (h3:∀x∈xs,∀y∈ys x,∀ρ,G1 x ρ→∃hZ,(∀τ,nF (jh y) ρ τ=some (hZ,τ))∧G1 x hZ∧∀l,e hZ (σ++ [.list l])=some (f x y,σ++ [.list l])) (dD:∀x∈xs,∀y∈ys x,PV.lt σ.length (f x y)=true):
 runC false tg it bF (λz σ=>some (true,σ)) (λk=>ph lJ nF (λz σ=>some (true,σ)) (bK e k)) bQ ρ σ=some (.lst (xs.flatMap λx=>(ys x).map (f x)),σ):=by
 refine bG (M4 (σ:=σ) (G:=G) (G1:=G1) (enc:=enc) (ys:=ys) (jh:=jh) (f:=f) (bF:=bF) (nF:=nF) (lJ:=lJ) (e:=e) xs (ρ.drop tg) [] g (by simpa using hz) h1 h2 h3) λai h=> ?_;unfold runC;rw[hit];show((hG false (σ.length-1) bF _ (ph lJ nF _ (bK e σ.length)) (xs.map enc) (ρ.drop tg) (σ++ [.list []])).bind λq=>bQ σ σ.length q)=_;rw[Aj,h];refine Ny _ rfl ?_;rw[jO];intro p hp;refine aT (wm.mp hp) λx hx hp=> ?_;(refine aT (dR.mp hp) λy hy aM=> ?_;subst aM);exact dD x hx y hy
end
section
variable{ρ ai:aO}{σ aq τ av:ah}
noncomputable abbrev p6(P:List (List Int))(iy:List Int):List (List Int):=P.flatMap λp=>iy.map λv=>p++ [v]
theorem VV{P:List (List Int)}{iy:List Int}(h1:ρ "points"=some (.lst (P.map bf)))(h2:ρ "lot"=some (bf iy))(hz:(p6 P iy).length≤1000)(hp:∀p∈P,p.length≤1000):
 runC false [".0","point","v"] (bE (af "points")) (a8 "point") (λz σ=>some (true,σ)) (λk=>ph (bE (af "lot")) (a8 "v") (λz σ=>some (true,σ)) (bK (bU dj (af "point") (dc [(af "v")])) k)) bQ ρ σ=some (.lst ((p6 P iy).map bf),σ):=by
 have e:(p6 P iy).map bf=P.flatMap λp=>iy.map λv=>bf (p++ [v]):=by
  rw[List.map_flatMap];congr 1;funext p;rw[kH];rfl
 rw[e];refine OL (enc:=bf) (ys:=λz=>iy) (jh:=PV.int) (f:=λp v=>bf (p++ [v])) (λai=>ai "lot"=some (bf iy)) (λp ai=>ai "lot"=some (bf iy)∧ai "point"=some (bf p)) P (dq (aj h1) rfl) h2 (by rw[←e,bB];exact hz) (λp z ai g=>⟨ai.set "point" (bf p),λz=>rfl,g,rfl⟩) (λp z ai g=>⟨g.1,λl=>dq (aj g.1) rfl⟩) (λp oH v z ai g=>⟨ai.set "v" (.int v),λz=>rfl,⟨g.1,g.2⟩,λl=> ?_⟩) λz z z z=>va _ _;have g2:(ai.set "v" (.int v)) "point"=some (bf p):=g.2;refine(da (aj g2) (xw (aV (aj rfl)))).trans ?_;show(if(p.map PV.int).length+ [PV.int v].length≤10000 then some (PV.lst (p.map PV.int++ [.int v]),σ++ [.list l])else none)=_;rw[aP (by have:=hp p oH;simp only[bB,jb,nR];lia)];unfold bf;rw[mO];rfl
end
section
variable{ρ ai:aO}{σ aq τ av:ah}
abbrev RM:CE:=runC false [".0","low","high","v"] (bE (af "domain")) nC (λz σ=>some (true,σ)) (λk=>ph (bE Hv) (a8 "v") (λz σ=>some (true,σ)) (bK (af "v") k)) bQ
noncomputable def P0(q:Int×Int):List Int:=(dK (q.2+1-q.1).toNat).map λi=>q.1+((i:Nat):Int)
theorem ZR(hd:d∈DD)(h:ρ "domain"=some (eD d)):RM ρ σ=some (bf (vals d),σ):=by
 have e:(vals d).map PV.int=d.flatMap λq=>(P0 q).map λv=>PV.int v:=by
  rw[List.map_flatMap];rfl
 show _=some (PV.lst ((vals d).map PV.int),σ);rw[e];refine OL (enc:=λq:Int×Int=> .tup [.int q.1,.int q.2]) (ys:=P0) (jh:=PV.int) (f:=λz v=>PV.int v) (λz=>True) (λq ai=>ai "low"=some (.int q.1)∧ai "high"=some (.int q.2)) d (dq (aj h) rfl) trivial (by rw[←e,bB];exact ao ((pf d hd).1) (aK rfl)) (λq z ai z=>⟨(ai.set "low" (.int q.1)).set "high" (.int q.2),λz=>rfl,rfl,rfl⟩) (λq hq ai g=>⟨trivial,λl=> ?_⟩) (λq z v z ai g=>⟨ai.set "v" (.int v),λz=>rfl,⟨g.1,g.2⟩,λl=>aj (x:="v") rfl⟩) λz z z z=>rfl;(refine pJ ((PN hd).2 q hq) λaL q3 q4=> ?_;obtain⟨q1,q2⟩:=aL);refine dq (v:= .d7 q.1 (q.2+1)) ((bp (bC (aj g.1) (aV ((da (aj g.2) rfl).trans rfl)))).trans rfl) ?_;rw[mX (⟨(dS (gV (by decide) q1)),(dS (i9 q2 (by decide)))⟩) (by lia)];rw[kH];rfl
theorem XK{ds:List Dm}(hd:∀d∈ds,d∈DD)(hz:ds.length≤1000)(h:ρ "domains"=some (.lst (ds.map eD))):runC false [".0","domain"] (bE (af "domains")) (a8 "domain") (λz σ=>some (true,σ)) (λk=>bK RM k) bQ ρ σ=some (.lst ((ds.map vals).map bf),σ):=by
 refine(n6 ds eD (λd=>bf (vals d)) (dq (aj h) rfl) (ao hz (aK rfl)) (λd hm l=>ZR (hd d hm) rfl) λz z=>va _ _).trans ?_;rw[kH];rfl
end
noncomputable def menu:List Dm:= [[(0,1)],[(0,2)],[(0,0),(2,2)],[(-1,0)]]
theorem abo:∀d∈menu,d∈DD∧d≠ []:=by decide+kernel
theorem NW:∀{vs:List PV},(∀v∈vs,∃d∈menu,v=eD d)→∃ds:List Dm,vs=ds.map eD∧∀d∈ds,d∈menu
 | [],_=>⟨[],rfl,λz h=>by cases h⟩
 |v::vs,h=>by
  (refine aT (h v (.head _)) λd hd aM=> ?_;subst aM);(refine aT (NW (vs:=vs) λv hv=>h v (.tail _ ‹_›)) λds aM hk=> ?_;subst aM);exact⟨d::ds,rfl,λx hx=>by
   rcases cG.mp hx with rfl|hx
   ·exact hd
   ·exact hk x hx⟩
section
variable{ρ ai:aO}{σ aq τ av:ah}{cells:List Int}{n:Nat}
theorem XM(hm:many≤3)(cC:cells.length≤1000)(hn:n+10≤10000)(h1:ρ "tape"=some (.loc 0))(h2:ρ "many"=some (.int many))(h3:ρ "menu"=some (.tup (menu.map eD))):
 ∃ds:List Dm,∃n',runC false [".0","x"] (bE xW) (a8 "x") (λz σ=>some (true,σ)) (λk=>bK (aG (af "menu") kU) k) bQ ρ (aH cells n::av)=some (.lst (ds.map eD),aH cells n'::av)∧ds.length=many∧(∀d∈ds,d∈menu)∧n'≤n+3:=by
 have B8:(fC 0 many).length=many:=by unfold fC;simp
 obtain⟨vs,n',e1,e2,e3,e4⟩:=Eo (ρ:=ρ) (cells:=cells) (av:=av) (P:=λv=>∃d∈menu,v=eD d) (B:=n+5) 1 (x:="x") (e:=aG (af "menu") kU) (fC 0 many) (n0:=n) (n:=n) (dq ((bp (aV (aj h2))).trans rfl:aN gz [af "many"] ρ (aH cells n::av)=some (.d7 0 many,aH cells n::av)) (mX (by decide) (⟨(dS (gV (by decide) (sa _))),(dS (i9 (jJ.mpr hm) (by decide)))⟩))) (ao (ao (bM B8) hm) (aK rfl)) (by lia) (λv h=>by obtain⟨d,_,rfl⟩:=h;exact l4 _ d) (λy z n' l ai qR kP z=>by
  refine aT (iE (ρ:=ai) (n:=n') (av:=av++ [PO.list l]) cC (cQ (b:=5) (ao (ao (bH qR 5) hn) (aK rfl))) (w:=4) (by decide) (e:=aw 4) ((kP _ (by decide) (by decide)).trans h1) (λz=>rfl)) λv t1 hv=> ?_;obtain⟨i,rfl⟩:∃i:Nat,v=i:=⟨v.toNat,by lia⟩;have hi:i<menu.length:=gg.mp hv.2;exact⟨eD menu[i],n'+1,dH (l:=menu.map eD) (i:=i) (aj ((kP _ (by decide) (by decide)).trans h3)) t1 (by rw[eM,cF hi];rfl) (ao (gg.mp hv.2) (aK rfl)),⟨_,mN hi,rfl⟩,cH _⟩)
 (refine aT (NW e3) λds aM vX=> ?_;clear e3;subst aM);exact⟨ds,n',e1,by rw[bB]at e2;exact k7 (ao (bM e2) (bM B8)) (ao (bM B8.symm) (bM e2.symm)),vX,by lia⟩
end
theorem abp(o0 o1 o2 o3:PO)(D T G:PV):lz 539 yK [D,T,G,.int 100] [o0,o1,o2,o3]=some (.loc 4,[o0,o1,o2,o3,.inst 539 [("domains",D),("tolds",T),("goal",G),("judge",.loc 5)],.inst 463 [("domains",D),("most",.int 100)]]):=rfl
theorem abq(o0 o1 o2 o3 o4 o5:PO):lz 347 yU [] [o0,o1,o2,o3,o4,o5]=some (.loc 6,[o0,o1,o2,o3,o4,o5,.inst 347 [("steps",.loc 7),("places",.loc 8)],.list [],.aU []]):=rfl
theorem WH(o0 o1 o2 o3 o5 o8:PO)(D T G:PV):∃v,yL [.loc 4,.loc 6] [o0,o1,o2,o3,.inst 539 [("domains",D),("tolds",T),("goal",G),("judge",.loc 5)],o5,.inst 347 [("steps",.loc 7),("places",.loc 8)],.list [],o8]=
 some (v,[o0,o1,o2,o3,.inst 539 [("domains",D),("tolds",T),("goal",G),("judge",.loc 5),("told_apart",.none),("answers",.loc 9)],o5,.inst 347 [("steps",.loc 7),("places",.loc 8)],.list [],o8,.list []]):=by
 generalize hS: [o0,o1,o2,o3,.inst 539 [("domains",D),("tolds",T),("goal",G),("judge",.loc 5),("told_apart",.none),("answers",.loc 9)],o5,.inst 347 [("steps",.loc 7),("places",.loc 8)],.list [],o8,PO.list []]=S;generalize aZ:(bX ["self","log"] [.loc 4,.loc 6] λz=>none)=a9;have g2:a9 "log"=some (.loc 6):=by rw[←aZ];rfl
 have s1:cW (bg [cU,(lX [])]) (gP [Bp,(jU (af "self") 539 "answers")]) a9 [o0,o1,o2,o3,.inst 539 [("domains",D),("tolds",T),("goal",G),("judge",.loc 5)],o5,.inst 347 [("steps",.loc 7),("places",.loc 8)],.list [],o8]=some (.next,a9,S):=by
  rw[←aZ,←hS];rfl
 have ls:ij (af "log") 347 "steps" a9 S=some (.loc 7,S):=jR (aj g2) (by rw[←hS];rfl) rfl;have hl:S[7]? =some (.list []):=by rw[←hS];rfl
 have ln:aN cq [tN] a9 S=some (.int 0,S):=(bp (aV ls)).trans (Ap hl (aK rfl));have te:aJ bA tN (dc []) a9 S=some (true,S):=by
  refine aX ls rfl ?_;unfold bA;rw[sV hl];rfl
 have R:Rt CF a9 [o0,o1,o2,o3,.inst 539 [("domains",D),("tolds",T),("goal",G),("judge",.loc 5)],o5,.inst 347 [("steps",.loc 7),("places",.loc 8)],.list [],o8] (.tup [.int (-1),.str "end"]) S:=
  cg s1 (cg ((gk (dq ((bp (aV ln)).trans rfl) (mX (by decide) (by decide)))).trans Ak) (dg (dG te) (bW (d3 (bC ((da ln rfl).trans rfl) (aV rfl))))))
 (refine bG R λai e=> ?_;clear R);refine⟨.tup [.int (-1),.str "end"],?_⟩;show m7 ["self","log"] CF [.loc 4,.loc 6] _=_;unfold m7;rw[aZ,e];rfl
theorem abr{P:List (List Int)}{iy:List Int}(h:iy.length≤3):(p6 P iy).length≤P.length*3:=by
 unfold p6
 induction P with
 |nil=>simp
 |cons p P ih=>rw[CM,oO,bB,jb];lia
theorem ac7{P:List (List Int)}{iy:List Int}(h:∀p∈P,p.length≤k):∀p∈p6 P iy,p.length≤k+1:=by
 intro p hp;refine aT (wm.mp hp) λq hq hp=> ?_;(refine aT (dR.mp hp) λv z aM=> ?_;subst aM);have:=h q hq;rw[oO];simp;exact this
section
variable{ρ ai:aO}{σ:ah}
theorem VW:∀(b9:List (List Int)) (P:List (List Int)) (ρ:aO) (k:Nat),ρ "points"=some (.lst (P.map bf))→(∀l∈b9,l.length≤3)→P.length*3^b9.length≤1000→(∀p∈P,p.length≤k)→k+b9.length≤900→
 ∃ai,eU false 0 (a8 "lot") Rh (b9.map bf) ρ σ=some (.next,ai,σ)∧ai "points"=some (.lst ((b9.foldl p6 P).map bf))∧∀x,x≠"lot"→x≠"points"→ai x=ρ x:=by
 intro x0
 induction x0 with
 |nil=>exact λP ρ k h z z z z=>⟨ρ,rfl,h,λz z z=>rfl⟩
 |cons l b9 ih=>
  intro P ρ k h hl hz hp hk;rw[jb]at hz;have oJ:(p6 P l).length*3^b9.length≤1000:=by
   refine ao (Nat.mul_le_mul_right _ (abr (P:=P) (hl l (.head _)))) ?_;rw[Nat.mul_assoc,Nat.mul_comm 3];exact hz
  refine cY (ih (p6 P l) ((ρ.set "lot" (bf l)).set "points" (.lst ((p6 P l).map bf))) (k+1) rfl (λx hx=>hl x (.tail _ ‹_›)) oJ (ac7 hp) (ao (bM (fS _ 1 _)) hk)) λai f1 f2 f3=> ?_;exact⟨ai,(ie (aA:=ρ.set "lot" (bf l)) rfl ((aR (cf (VV (ρ:=ρ.set "lot" (bf l)) (σ:=σ) (P:=P) (iy:=l) h rfl (ao (Nat.le_mul_of_pos_right _ (Nat.pow_pos (by decide))) oJ) (λp q=>by have:=hp p q;exact cQ (b:=1) (ao (ao (ao (bH this 1) (bH (bR _ _) 1)) hk) (aK rfl)))))).trans rfl)).trans f1,f2,λx h1 h2=>(f3 x h1 h2).trans (by unfold aO.set;rw[aS h2,aS h1])⟩
end
section
variable{ρ ai:aO}{σ:ah}{cells:List Int}{n:Nat}{c:b8}
theorem abt{v:Int}(h:0≤v∧v<3):∃kind gx,fZ σ (.tup [.tup [.str "satisfy",.none],.tup [.str "minimize",.int 0],.tup [.str "maximize",.int 0]]) (.int v)=some (.tup [.str kind,gx])∧((kind="satisfy"∧gx=PV.none)∨((kind="minimize"∨kind="maximize")∧gx= .int 0)):=by
 have:v=0∨v=1∨v=2:=by lia
 clear h;rcases this with rfl|rfl|rfl
 ·exact⟨"satisfy",.none,rfl,.inl ⟨rfl,rfl⟩⟩
 ·exact⟨"minimize",.int 0,rfl,.inr ⟨.inl rfl,rfl⟩⟩
 ·exact⟨"maximize",.int 0,rfl,.inr ⟨.inr rfl,rfl⟩⟩
theorem Vr(K:c.ok)(h1:ρ "points"=some (.lst (c.points.map bf)))(h2:ρ "tolds"=some (.lst [eT c.t0,eT c.t1])):
 runC false [".0","point"] (bE (af "points")) (a8 "point") Rl (λk=>bK (af "point") k) bQ ρ σ=some (.lst (c.answers.map bf),σ):=by
 refine jL c.points bf bf c.keeps (dq (aj h1) rfl) (ao (zy K) (aK rfl)) (λp hp l=> ?_) (λz z z z=>rfl) λz z z=>va _ _;have g1:((ρ.drop [".0","point"]).set "point" (bf p)) "tolds"=some (.lst [eT c.t0,eT c.t1]):=h2;refine bG (td K (o9 hp)) λq hq=> ?_;have lK:bf p= .lst (.int (p.getD 0 0):: .int (p.getD 1 0)::q.map .int):=by
  conv=>lhs;rw[hq]
  rfl
 have kp:∀(t:Tl) (i:Nat),[eT c.t0,eT c.t1][i]? =some (eT t)→i<2→cB (aN uI [(aG (af "tolds") (aw (i:Nat))),(af "point")]) ((ρ.drop [".0","point"]).set "point" (bf p)) (σ++ [.list l])=some (eW t (p.getD 0 0) (p.getD 1 0),σ++ [.list l]):=λt i hi j0=>by
  have:=NH (σ:=σ++ [.list l]) t (a:=p.getD 0 0) (b:=p.getD 1 0) (q.map .int);rw[←lK]at this;exact dn ((bp (bC (gA (i:=i) (aj g1) rfl hi (ao j0 (aK rfl))) (aV (aj rfl)))).trans this)
 have k0:=kp c.t0 0 rfl (by decide);have k1:=kp c.t1 1 rfl (by decide);unfold b8.keeps;cases h0:eW c.t0 (p.getD 0 0) (p.getD 1 0)with
 |false=>rw[h0]at k0;exact fY k0
 |true=>
  rw[h0]at k0;refine(eJ k0).trans ?_;cases h3:eW c.t1 (p.getD 0 0) (p.getD 1 0)with
  |false=>rw[h3]at k1;exact fY k1
  |true=>rw[h3]at k1;exact(eJ k1).trans rfl
end
structure F0(ρ:aO)(c:b8):Prop where
 tp:ρ "tape"=some (.loc 0)
 mn:ρ "many"=some (.int c.ds.length)
 dm:ρ "domains"=some (.lst (c.ds.map eD))
 to:ρ "tolds"=some (.lst [eT c.t0,eT c.t1])
 go:ρ "goal"=some c.goal
 lo:ρ "lots"=some (.lst (c.b9.map bf))
 po:ρ "points"=some (.lst (c.points.map bf))
 an:ρ "answers"=some (.lst (c.answers.map bf))
section
abbrev afw:CS:=(ak (bx "scene" HH)
 (ak (bx "steps" (lX [vB,vB]))
 (ak (bx "checker" HJ)
 (ak (lq HK)
 (ak (ft (bE (aN gz [(aw 5)])) (a8 "lap") Aq)
 kN)))))
end
section
variable{ρ ai:aO}{σ:ah}{cells:List Int}{n:Nat}{c:b8}
theorem uW{x:String}{d:CE}{cs:List (String×CE)}{v:PV}{vs:List (String×PV)}{σ τ:ah}(h:d ρ σ=some (v,aq))(h2:ua cs ρ aq=some (vs,τ)):ua ((x,d)::cs) ρ σ=some ((x,v)::vs,τ):=(bb h).trans (bb h2)
theorem ac8(K:c.ok)(cC:cells.length≤1000)(hn:n≤100)(F:F0 ρ c):∃ai aq,afw ρ [aH cells n]=some (.ret (.bool true),ai,aq):=by
 have bJ:=K.len;have s1:bx "scene" HH ρ [aH cells n]=some (.next,ρ.set "scene" (.loc 1),[aH cells n,.cZ (fX c none),.list []]):=by
  refine cf ((bb (a:=(fX c none,[aH cells n,.cZ [],.list []])) ?_).trans rfl);exact uW (aj F.lo) (uW (aj F.po) (uW (aj F.to) (uW (aj F.an) (uW (aj F.go) rfl))))
 generalize fv:ρ.set "scene" (.loc 1)=aA at s1;have a1:aA "tape"=some (.loc 0):=by rw[←fv];exact F.tp
 have a2:aA "many"=some (.int c.ds.length):=fv▸F.mn;refine jV (D8 (cells:=cells) (av:= [.cZ (fX c none),.list []]) (n:=n) (many:=c.ds.length) (by lia) cC (by exact ao (bH hn 20) (aK rfl))) λk1 n1 e1 kD TC rZ=> ?_;refine jV (D8 (cells:=cells) (av:= [.cZ (fX c none),.list []]) (n:=n1) (many:=c.ds.length) (by lia) cC (ao (ao (bH kD 20) (bH hn 30)) (aK rfl))) λk2 n2 e2 qN oJ hd2=> ?_;have ct:∀{m m':Nat} {k:List K3},zd [.loc 0,.int c.ds.length] (aH cells m:: [.cZ (fX c none),.list []])=some (bh k,aH cells m':: [.cZ (fX c none),.list []])→bg [(a5 "nogood"),Bs,(bg []),cU] aA [aH cells m,.cZ (fX c none),.list []]=some ((Sp.mk (.str "nogood") k (.tup []) .none).pv,[aH cells m',.cZ (fX c none),.list []]):=λh=>
  d3 (bC rfl (bC ((bp (bC (aj a1) (aV (aj a2)))).trans h) (bC rfl (aV rfl))))
 have s2:bx "steps" (lX [vB,vB]) aA [aH cells n,.cZ (fX c none),.list []]=some (.next,aA.set "steps" (.loc 3),[aH cells n2,.cZ (fX c none),.list [],.list ([Sp.mk (.str "nogood") k1 (.tup []) .none,Sp.mk (.str "nogood") k2 (.tup []) .none].map Sp.pv)]):=
  cf ((bb (bC (ct e1) (aV (ct e2)))).trans rfl)
 generalize et:aA.set "steps" (.loc 3)=bL at s2;have s3:bx "checker" HJ bL [aH cells n2,.cZ (fX c none),.list [],.list ([Sp.mk (.str "nogood") k1 (.tup []) .none,Sp.mk (.str "nogood") k2 (.tup []) .none].map Sp.pv)]=some (.next,bL.set "checker" (.loc 4),[aH cells n2,.cZ (fX c none),.list [],.list ([Sp.mk (.str "nogood") k1 (.tup []) .none,Sp.mk (.str "nogood") k2 (.tup []) .none].map Sp.pv),.inst 539 [("domains",.lst (c.ds.map eD)),("tolds",.lst [eT c.t0,eT c.t1]),("goal",c.goal),("judge",.loc 5)],.inst 463 (lU c.ds)]):=by
  exact cf ((bp (bC (aj (et▸(fv▸F.dm:aA "domains"=some (.lst (c.ds.map eD))))) (bC (aj (et▸(fv▸F.to:aA "tolds"=some (.lst [eT c.t0,eT c.t1])))) (bC (aj (et▸(fv▸F.go:aA "goal"=some c.goal))) (aV rfl))))).trans (abp _ _ _ _ _ _ _))
 generalize iV:bL.set "checker" (.loc 4)=dw at s3;have TF:FL dw c.ds.length:=by rw[←iV,←et];exact⟨a1,(fv▸rfl:aA "scene"=some (.loc 1)),rfl,rfl,a2⟩
 refine bG (WH (aH cells n2) (.cZ (fX c none)) (.list []) (.list ([Sp.mk (.str "nogood") k1 (.tup []) .none,Sp.mk (.str "nogood") k2 (.tup []) .none].map Sp.pv)) (.inst 463 (lU c.ds)) (.aU []) (.lst (c.ds.map eD)) (.lst [eT c.t0,eT c.t1]) c.goal) λv lk=> ?_;have s4:lq HK dw [aH cells n2,.cZ (fX c none),.list [],.list ([Sp.mk (.str "nogood") k1 (.tup []) .none,Sp.mk (.str "nogood") k2 (.tup []) .none].map Sp.pv),.inst 539 [("domains",.lst (c.ds.map eD)),("tolds",.lst [eT c.t0,eT c.t1]),("goal",c.goal),("judge",.loc 5)],.inst 463 (lU c.ds)]=some (.next,dw,aH cells n2::Rs c none [] [Sp.mk (.str "nogood") k1 (.tup []) .none,Sp.mk (.str "nogood") k2 (.tup []) .none]):=
  xj ((jx (aj TF.ck) rfl rfl (aV ((bp rfl).trans (abq _ _ _ _ _ _)))).trans lk)
 have I:Inv c [] [Sp.mk (.str "nogood") k1 (.tup []) .none,Sp.mk (.str "nogood") k2 (.tup []) .none] 0 n2:=by
  refine⟨λs hs=> ?_,aK rfl,cH _,cH _,by lia⟩;simp only[cG,ff,fg]at hs;rcases hs with rfl|rfl
  ·exact⟨⟨λl hl=>(rZ l hl).lit,ao TC (aK rfl)⟩,by exact ao TC (aK rfl)⟩
  ·exact⟨⟨λl hl=>(hd2 l hl).lit,ao oJ (aK rfl)⟩,ao oJ (aK rfl)⟩
 refine gM (XI (cells:=cells) K cC (fC 0 5) 0 n2 dw none [] _ (by decide) I TF) λai aq h5=> ?_;exact⟨ai,aq,(aR s1).trans ((aR s2).trans ((aR s3).trans ((aR s4).trans ((aR ((gk (dq (v:= .d7 0 5) rfl (mX (by decide) (by decide)))).trans h5)).trans (bS (dE rfl))))))⟩
end
section
variable{ρ ai:aO}{σ:ah}
theorem aeh{xs:List Int}(hz:xs.length≤63)(h0:ρ "script"=some (.lst (xs.map .int))):∃ai aq,PD ρ []=some (.ret (.bool true),ai,aq):=by
 refine aT (abn (σ:= [.cZ []]) h0 hz) λcells cC e0=> ?_;have s1:bx "tape" Ri ρ []=some (.next,ρ.set "tape" (.loc 0),[aH cells 0]):=
  cf ((bb (a:=([("cells",.lst (cells.map .int)),("spot",.int 0)],[.cZ []])) (uW e0 rfl)).trans rfl)
 generalize fv:ρ.set "tape" (.loc 0)=aA at s1;have a1:aA "tape"=some (.loc 0):=fv▸rfl;refine cY (iE (ρ:=aA) (n:=0) (av:= []) cC (aK rfl) (w:=2) (by decide) (e:=aw 2) a1 (λz=>rfl)) λv e2 hv0 hv2=> ?_;obtain⟨many,xy,hm⟩:∃many:Nat,2+v=(many:Int)∧(many=2∨many=3):=⟨(2+v).toNat,by lia,by lia⟩;have s2:bx "many" (bU dj (aw 2) Br) aA [aH cells 0]=some (.next,aA.set "many" (.int many),[aH cells 1]):=by
  refine cf ((da (x:= .int 2) rfl e2).trans ?_);rw[←xy];rfl
 generalize et:aA.set "many" (.int many)=bL at s2;have s3:bx "menu" Rj bL [aH cells 1]=some (.next,bL.set "menu" (.tup (menu.map eD)),[aH cells 1]):=rfl;generalize iV:bL.set "menu" (.tup (menu.map eD))=dw at s3;have d1:dw "tape"=some (.loc 0):=iV▸(et▸a1:bL "tape"=some (.loc 0));have d2:dw "many"=some (.int many):=iV▸(et▸rfl:bL "many"=some (.int many));refine jV (XM (ρ:=dw) (av:= []) (n:=1) (many:=many) (by omega) cC (aK rfl) d1 d2 (iV▸rfl)) λds n4 e4 Ip hdm ui=> ?_;have s4:=cf (x:="domains") e4;generalize qF:dw.set "domains" (.lst (ds.map eD))=jf at s4;have f1:jf "tape"=some (.loc 0):=qF▸d1;have f2:jf "many"=some (.int ds.length):=by rw[←qF,Ip];exact d2
 refine aT (OK (cells:=cells) (av:= []) (n:=n4) cC (ao (bH ui 20) (aK rfl))) λt0 e50 IQ=> ?_;refine aT (OK (cells:=cells) (av:= []) (n:=n4+2) cC (ao (bH ui 22) (aK rfl))) λt1 e51 oF=> ?_;have s5:bx "tolds" (dc [AS,AS]) jf [aH cells n4]=some (.next,jf.set "tolds" (.lst [eT t0,eT t1]),[aH cells (n4+4)]):=
  cf (xw (bC ((bp (aV (aj f1))).trans e50) (aV ((bp (aV (aj f1))).trans e51))))
 generalize Bz:jf.set "tolds" (.lst [eT t0,eT t1])=kr at s5;have g1:kr "tape"=some (.loc 0):=Bz▸f1;have g3:kr "domains"=some (.lst (ds.map eD)):=Bz▸(qF▸rfl:jf "domains"=some (.lst (ds.map eD)));have g4:kr "tolds"=some (.lst [eT t0,eT t1]):=Bz▸rfl;refine aT (iE (ρ:=kr) (n:=n4+4) (av:= []) cC (ao (bH ui 4) (aK rfl)) (w:=3) (by decide) (e:=aw 3) g1 (λz=>rfl)) λu e6 hu=> ?_;refine gD (abt (σ:= [aH cells (n4+5)]) hu) λkind gx eg hg=> ?_;have s6:bx "goal" Rm kr [aH cells (n4+4)]=some (.next,kr.set "goal" (.tup [.str kind,gx]),[aH cells (n4+5)]):=
  cf (dO rfl e6 eg)
 have K:b8.ok ⟨ds,t0,t1,kind,gx⟩:=⟨by lia,λd hd=>abo d (hdm d hd),IQ,oF,hg⟩;generalize tT:kr.set "goal" (.tup [.str kind,gx])=GZ at s6;have h3:GZ "domains"=some (.lst (ds.map eD)):=tT▸g3;have s7:=cf (x:="lots") (XK (ρ:=GZ) (σ:= [aH cells (n4+5)]) (ds:=ds) (λd hd=>(K.dd d hd).1) (by omega) h3);generalize tU:GZ.set "lots" (.lst ((ds.map vals).map bf))=G0 at s7;have s8:bx "points" (dc [(dc [])]) G0 [aH cells (n4+5)]=some (.next,G0.set "points" (.lst ([([]:List Int)].map bf)),[aH cells (n4+5)]):=rfl;generalize rM:G0.set "points" (.lst ([([]:List Int)].map bf))=G3 at s8;have i7:G3 "lots"=some (.lst ((ds.map vals).map bf)):=by rw[←rM,←tU];rfl
 have hll:(ds.map vals).length≤3:=by rw[bB];omega
 obtain⟨xA,e9,p9,TG⟩:=VW (σ:= [aH cells (n4+5)]) (ds.map vals) [[]] G3 0 (rM▸rfl) (λl hl=>by
  (refine aT (dR.mp hl) λd hd aM=> ?_;clear hl;subst aM);exact(pf d (K.dd d hd).1).1) (by
  have:=Nat.pow_le_pow_right (show 0<3 by decide) hll;rw[List.length_singleton,Nat.one_mul];exact ao this (by decide)) (λp hp=>by
  rw[fz.mp hp];exact cH _) (by lia)
 have old:∀x,x≠"lot"→x≠"points"→x≠"answers"→(xA.set "answers" (.lst ((b8.answers ⟨ds,t0,t1,kind,gx⟩).map bf))) x=G3 x:=λx h1 h2 h3=>(by unfold aO.set;rw[aS h3]:_=xA x).trans (TG x h1 h2);have F:F0 (xA.set "answers" (.lst ((b8.answers ⟨ds,t0,t1,kind,gx⟩).map bf))) ⟨ds,t0,t1,kind,gx⟩:=by
  refine⟨(old _ (by decide) (by decide) (by decide)).trans ?_,(old _ (by decide) (by decide) (by decide)).trans ?_,(old _ (by decide) (by decide) (by decide)).trans ?_,(old _ (by decide) (by decide) (by decide)).trans ?_,(old _ (by decide) (by decide) (by decide)).trans ?_,(old _ (by decide) (by decide) (by decide)).trans i7,?_,rfl⟩
  ·rw[←rM,←tU,←tT];exact g1
  ·rw[←rM,←tU,←tT];exact(Bz▸f2:kr "many"=some (.int ds.length))
  ·rw[←rM,←tU,←tT];exact g3
  ·rw[←rM,←tU,←tT];exact g4
  ·rw[←rM,←tU,←tT];rfl
  ·exact p9
 refine gM (ac8 (n:=n4+5) K cC (ao (bH ui 5) (aK rfl)) F) λai aq hD=> ?_;exact⟨ai,aq,(aR s1).trans ((aR s2).trans ((aR s3).trans ((aR s4).trans ((aR s5).trans ((aR s6).trans ((aR s7).trans ((aR s8).trans ((aR ((gk (dq (aj i7) rfl)).trans e9)).trans ((aR (cf (x:="answers") (Vr (ρ:=xA) (σ:= [aH cells (n4+5)]) K p9 ((TG _ (by decide) (by decide)).trans (by rw[←rM,←tU,←tT];exact g4):xA "tolds"=some (.lst [eT t0,eT t1]))))).trans hD)))))))))⟩
end
theorem ZS{w:br}{s:aE}{A:bO}(B:KBw w s.heap)(iq:∃o,s.heap.get? jt=some o)(ho:fc 59 A){b:aI}{vs:Array au}{n:Nat}(hl:IsL s.heap b vs n){xs:List Int}(V:a7 s.heap [] vs.toList (xs.map .int))(hz:xs.length≤63)
 {E:au→aE→Prop} (q:∀h' (tk:TK),(∀a o,s.heap.get? a=some o→h'.get? a=some o)→Q (.bool true) {s with heap:=h',toks:=tk.1,drawn:=tk.2}):aY (ba pw w) A (call (.ref 617) [.ref b]) Q E s:=by
 obtain⟨ai,aq,e⟩:=aeh (ρ:=bX ["script"] [.lst (xs.map .int)] λz=>none) hz rfl;have T:RS pw w s.heap s.heap [] []:=⟨λz z e=>e,rfl,λi a b o h=>by(cases h),.nil,λa h=>by(cases h),λa h=>by(cases h)⟩;refine sC (Ea (K:=KK w.params) (oc:= .type "function") (od:=none) (vO:= #[]) (fd:=ve) (f:=617) (params:= ["script"]) (n:=58) (body:=ot ve) B (by kernel_rfl) (by kernel_rfl) (by kernel_rfl) (by kernel_rfl) (by kernel_rfl) (by kernel_rfl) (FT (by intro;kernel_rfl)) (uL (by kernel_rfl)) (adP B iq) A s [] [] [.ref b] [.lst (xs.map .int)] _ _ _ E Q ho (cH _) T (.cons (.lst hl (λh=>by cases h) V) .nil) rfl e λv h' tk aD k p fr T' V'=> ?_);cases V' with
 |bool b=>exact q h' tk λa o e=>k a o e λh=>by cases h
theorem ZT{args:List WData}(h:xY.row.toRowW.claim.pre args=true):∃xs:List Int,args= [.list (xs.map .int)]∧xs.length≤63:=by
 obtain⟨h1,h2⟩:=pre_splitW h;obtain⟨d,r,rfl,hd,hr⟩:=hasAllW_cons (show WShape.hasAll [] args [.list .int]=true from h1);obtain rfl:=hasAllW_nil hr;obtain⟨ys,rfl,hi⟩:=hasW_list hd;obtain⟨xs,rfl⟩:=items_int hi;refine⟨xs,rfl,?_⟩;have h3:=(holds_andW (a:= .not (.lt (.lit (.int 63)) (.len (.arg 0)))) (b:= .lit (.bool true)) h2).1;have q:∀b:Bool,(match some (WData.bool b)with|some (.bool true)=>true|_=>false)=true→b=true:=λb=>by cases b<;>exact id
 have h4:(!decide ((63:Int)<((xs.map WData.int).length:Nat)))=true:=q _ h3;rw[bB]at h4;exact eP.mp λz=>wj ((bV not (bN (gg.mpr z))).symm.trans h4)
theorem M5{P:Params}{h:aF}:∀{xs:List Int} {vs:List au},WellAll P h vs (xs.map .int)→a7 h [] vs (xs.map .int)
 | [],vs,e=>by
  cases e;exact .nil
 |x::xs,vs,e=>by
  cases e with
  |cons a r=>
   cases a;exact .cons (.int _ _) (M5 r)
def dk:DefRec×List (Str×a6):=(defOf qv (S "law")).get (by kernel_rfl)
theorem aei:defOf qv xY.row.name=some (dk.1,dk.2):=(Option.some_get (by kernel_rfl:(defOf qv (S "law")).isSome=true)).symm
theorem abu(args:List WData):xY.row.toRowW.claim.post args (.bool true) args=true:=by
 show(WShape.has [] (.bool true) .bool&&WTm.holds [] (.eq .res (.lit (.bool true))) {args:=args,res:=some (.bool true),after:=args})=true;kernel_rfl
theorem walk:WalkO qv sY (λz z=>True) YP xY.row.toRowW dk.1 dk.2 λf vs=>call f vs:=by
 intro w afK cV mg mb G Y a o pm cd doc dV kV ho hd rQ hD TH hg args vals as afx afL hrd hwl hlo;have B:KBw w cV.heap:=⟨Y.1,G.T.nolimit,⟨_,G.T.g⟩,⟨_,G.T.b,G.T.builtins⟩⟩;have ha:mg (S "law")=some (.ref 617):=mg_of Y.1 G.T.g (by kernel_rfl);have hn:dk.1.name=S "law":=by kernel_rfl
 rw[hn,ha]at TH;obtain rfl:617=a:=qd (c8 TH);obtain⟨xs,rfl,hz⟩:=ZT afx;obtain⟨v,rfl,hv⟩:∃v,vals= [v]∧Well w.params cV.heap v (.list (xs.map .int)):=by
  cases hwl with
  |cons h r=>cases r;exact⟨_,rfl,h⟩
 obtain⟨b,vs,rfl,hb,IU⟩:∃b vs,v= .ref b∧cV.heap.get? b=some {cls:= .type "list",data:= .seq (KV vs)}∧WellAll w.params cV.heap vs (xs.map .int):=by
  cases hv with
  |list e r=>exact⟨_,_,rfl,e,r⟩
 refine ZS B Y.2 ⟨rfl,by decide,by decide⟩ hb (M5 IU) hz λh' tk k=> ?_;exact⟨.inl ⟨.bool true,.bool true,[],rfl,λz=>rfl,.bool _,abu _,λz=>⟨.nil,λz h=>by cases h⟩⟩,.of_keep k,rfl,.of_eq hg⟩
theorem holds1:TM.Holds:=
 holds_law aex λk1=>holds_open (q:=qv) (loose:=sY) (Xt:=λz=>true) (XP:=λz z=>True) (Yf:=Yf) (Ya:=Ya) (YP:=YP) (N:=4200) left ac9 XO (λz z=>trivial) (λz z z z z=>trivial)
  aei (by kernel_rfl) (by kernel_rfl) (λs z=>recFacts_of (R:= []) (s:=s) (by rfl)) (by rfl) k1 (by kernel_rfl) ⟨rfl,rfl,rfl,rfl,rfl,tabs⟩ ⟨[.list []],by decide+kernel,by decide+kernel⟩ walk
end Mine
end
theorem PySem.Challenge.cw_qd0028_01_holds : PySem.Challenge.rw_qd0028_01.Holds := by
 exact Mine.holds1
